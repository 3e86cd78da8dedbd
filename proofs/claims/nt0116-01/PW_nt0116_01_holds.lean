import PyProof.Rows.All
import Wide.All
import OpenK.AllK
import Wide.FinOn
import Lean
import PySem.Challenge.RW_nt0116_01
open PySem PySem.W PySem.Calls PyProof.Rows
set_option Elab.async false
namespace Mine
set_option maxRecDepth 100000
abbrev PW : Program := PySem.Challenge.pw_nt0116_01
abbrev BE : List Stmt := behindTheImports PW
noncomputable def ENV : Env := { scope := PW.main.scope, locals := mainNs, globals := mainNs, cells := [], code := .ref 13, frame := some 14 }
noncomputable abbrev CE : Code := .body BE ENV
noncomputable abbrev ANN : Option Value := some (.ref 6)
noncomputable abbrev QP : Pos := ⟨0, 0, 0, 0⟩
noncomputable abbrev FRS : List Frame := [topFrame QP]
noncomputable def S0 (w : World) (os : OsState) : Shared := ⟨boot_heap w.params, #[], boot_drawn, boot_toks, os⟩
noncomputable def SA (w : World) (os : OsState) : Shared := ((topGo treeTable PW w 11 ANN 12 (S0 w os) (topStub PW)).map (·.1)).getD (S0 w os)
theorem pre (w : World) (os : OsState) : topGo treeTable PW w 11 ANN 12 (S0 w os) (topStub PW) = some (SA w os, ⟨denote treeTable CE, CE, QP, FRS⟩) := by kernel_rfl
noncomputable def mkT : Nat → List Obj → BT → BT
  | _, [], t => t
  | i, o :: r, t => mkT (i + 1) r (t.ins i o)
noncomputable def SB (w : World) (os : OsState) : SharedT := { tree := mkT 0 (SA w os).heap.objs.toList .nil, n := 15, life := {}, gens := #[], drawn := {}, toks := 187, os := os }
theorem blockS (w : World) (os : OsState) : SA w os = (SB w os).abs := by kernel_rfl
theorem block (w : World) (os : OsState) : segRun treeTable PW w 11 ANN 1 1 (SA w os) (blockOf BE ENV CE QP FRS) = some (.next, SA w os, CE, QP) := by kernel_rfl
theorem fin (w : World) (s : Shared) (c : Code) (p : Pos) : topRun treeTable PW w 11 ANN 2 s ⟨doneF .next, c, p, FRS⟩ = some s := by kernel_rfl
theorem size (w : World) : ((boot_heap w.params).isNs mainGlobals && (#[] : Array GenState).size == 0, (boot_heap w.params).objs.size, (boot_heap w.params).nsMap mainGlobals "__annotations__") = (true, 11, ANN) := by kernel_rfl
noncomputable abbrev PE : Pos := ⟨419, 0, 445, 85⟩
noncomputable def RUN (w : World) (os : OsState) : Option (Flow × SharedT × Code × Pos) := PySem.W.Fast.tw10110043849684766642 PySem.W.Fast.tw14364793385576792824 PW w 11 ANN 1 7000 (SB w os) ⟨(PySem.W.Fast.tw12563942051412417395 BE ENV).wrap doneF deadEnd id id, CE, QP, FRS⟩
noncomputable def SE (w : World) (os : OsState) : SharedT := ((RUN w os).map (·.2.1)).getD (SB w os)
theorem RUN_eq (w : World) (os : OsState) : segRunT treeTable PW w 11 ANN 1 7000 (SB w os) (piecesOf BE ENV CE QP FRS) = RUN w os := by
  unfold RUN piecesOf
  rw [PySem.W.Fast.te10110043849684766642, PySem.W.Fast.te14364793385576792824, PySem.W.Fast.te12563942051412417395]
noncomputable abbrev LOOSE : List PySem.Str := Str.ofString "_wall" :: Str.ofString "fold" :: Str.ofString "row_of" :: Str.ofString "rows_of" :: Str.ofString "Node" :: Str.ofString "Expr" :: Str.ofString "Literal" :: Str.ofString "Name" :: Str.ofString "Unary" :: Str.ofString "Binary" :: Str.ofString "Between" :: Str.ofString "InList" :: Str.ofString "InSelect" :: Str.ofString "Exists" :: Str.ofString "Call" :: Str.ofString "Cast" :: Str.ofString "IsNull" :: Str.ofString "Match" :: Str.ofString "fold_ascii" :: Str.ofString "affinity_of_type" :: Str.ofString "Bound" :: Str.ofString "is_rowid_place" :: Str.ofString "surely_integer" :: Str.ofString "Path" :: Str.ofString "first_bound" :: Str.ofString "put_equal" :: Str.ofString "put_list" :: Str.ofString "put_range" :: Str.ofString "guess" :: Str.ofString "rowid_paths" :: Str.ofString "fits_column" :: Str.ofString "index_paths" :: Str.ofString "new_index_path" :: Str.ofString "scan_path" :: Str.ofString "cost_of" :: Str.ofString "Source" :: Str.ofString "Index" :: Str.ofString "Table" :: Str.ofString "_law_pool" :: Str.ofString "_law_take" :: Str.ofString "_law_one" :: Str.ofString "_law_bound" :: Str.ofString "_law_due" :: Str.ofString "ROWS_AT_MOST" :: []
noncomputable abbrev LV : List (PySem.Str × WData) := [(Str.ofString "ROWS_AT_MOST", WData.int 1000000000000)]
noncomputable def VW : Program := view PW [21, 25, 26, 27, 32, 33, 34, 35, 36, 37, 50, 51, 64]
noncomputable abbrev XT : Shared → Bool := fun s => xlAt VW LV s && recOk (RowW.records PySem.Challenge.rw_nt0116_01.row.toRowW) s
noncomputable def nth : List Stmt → Nat → Stmt
  | [], _ => .Pass QP
  | a :: _, 0 => a
  | _ :: r, n + 1 => nth r n
noncomputable def clsBody : Stmt → List Stmt
  | .ClassDef _ _ _ b _ _ _ _ _ _ _ => b
  | _ => []
noncomputable def mkFd (st : Stmt) (name qual : PySem.Str) (globals : Addr) (closure : List (PySem.Str × Addr)) (dV kV doc pm : Value) (an : Option Addr) (cd ct : Value) (bu : Addr) : FuncData := match st with
  | .FunctionDef _ a b _ _ _ sc _ _ _ => FuncData.mk name qual a (.stmts b) sc globals closure dV kV doc pm an cd ct bu
  | _ => default
noncomputable def fd85 : { f : FuncData // f = mkFd (nth (clsBody (nth PW.main.body 8)) 0) (Str.ofString "__init__") (Str.ofString "Literal.__init__") (3) ([]) (PySem.Value.none) (PySem.Value.none) (PySem.Value.none) (PySem.Value.str (PySem.Str.ofString "pagebase.nodes") 202) (none) (PySem.Value.ref 84) (PySem.Value.none) (0) } := ⟨_, by conv => { rhs; whnf }⟩
noncomputable def fd414 : { f : FuncData // f = mkFd (nth (clsBody (nth PW.main.body 28)) 0) (Str.ofString "__init__") (Str.ofString "Bound.__init__") (3) ([]) (PySem.Value.none) (PySem.Value.none) (PySem.Value.none) (PySem.Value.str (PySem.Str.ofString "pagebase.terms") 712) (none) (PySem.Value.ref 413) (PySem.Value.none) (0) } := ⟨_, by conv => { rhs; whnf }⟩
noncomputable def fd428 : { f : FuncData // f = mkFd (nth PW.main.body 29) (Str.ofString "is_rowid_place") (Str.ofString "is_rowid_place") (3) ([]) (PySem.Value.none) (PySem.Value.none) (PySem.Value.none) (PySem.Value.str (PySem.Str.ofString "pagebase.terms") 712) (none) (PySem.Value.ref 427) (PySem.Value.none) (0) } := ⟨_, by conv => { rhs; whnf }⟩
noncomputable def fd435 : { f : FuncData // f = mkFd (nth PW.main.body 30) (Str.ofString "surely_integer") (Str.ofString "surely_integer") (3) ([]) (PySem.Value.none) (PySem.Value.none) (PySem.Value.none) (PySem.Value.str (PySem.Str.ofString "pagebase.terms") 712) (none) (PySem.Value.ref 434) (PySem.Value.none) (0) } := ⟨_, by conv => { rhs; whnf }⟩
noncomputable def fd450 : { f : FuncData // f = mkFd (nth (clsBody (nth PW.main.body 38)) 0) (Str.ofString "__init__") (Str.ofString "Path.__init__") (3) ([]) (PySem.Value.ref 443) (PySem.Value.none) (PySem.Value.none) (PySem.Value.str (PySem.Str.ofString "pagebase.paths") 790) (none) (PySem.Value.ref 449) (PySem.Value.none) (0) } := ⟨_, by conv => { rhs; whnf }⟩
noncomputable def fd457 : { f : FuncData // f = mkFd (nth (clsBody (nth PW.main.body 38)) 1) (Str.ofString "is_led") (Str.ofString "Path.is_led") (3) ([]) (PySem.Value.none) (PySem.Value.none) (PySem.Value.none) (PySem.Value.str (PySem.Str.ofString "pagebase.paths") 790) (none) (PySem.Value.ref 456) (PySem.Value.none) (0) } := ⟨_, by conv => { rhs; whnf }⟩
noncomputable def fd485 : { f : FuncData // f = mkFd (nth PW.main.body 39) (Str.ofString "first_bound") (Str.ofString "first_bound") (3) ([]) (PySem.Value.none) (PySem.Value.none) (PySem.Value.none) (PySem.Value.str (PySem.Str.ofString "pagebase.paths") 790) (none) (PySem.Value.ref 484) (PySem.Value.none) (0) } := ⟨_, by conv => { rhs; whnf }⟩
noncomputable def fd492 : { f : FuncData // f = mkFd (nth PW.main.body 40) (Str.ofString "put_equal") (Str.ofString "put_equal") (3) ([]) (PySem.Value.none) (PySem.Value.none) (PySem.Value.none) (PySem.Value.str (PySem.Str.ofString "pagebase.paths") 790) (none) (PySem.Value.ref 491) (PySem.Value.none) (0) } := ⟨_, by conv => { rhs; whnf }⟩
noncomputable def fd499 : { f : FuncData // f = mkFd (nth PW.main.body 41) (Str.ofString "put_list") (Str.ofString "put_list") (3) ([]) (PySem.Value.none) (PySem.Value.none) (PySem.Value.none) (PySem.Value.str (PySem.Str.ofString "pagebase.paths") 790) (none) (PySem.Value.ref 498) (PySem.Value.none) (0) } := ⟨_, by conv => { rhs; whnf }⟩
noncomputable def fd506 : { f : FuncData // f = mkFd (nth PW.main.body 42) (Str.ofString "put_range") (Str.ofString "put_range") (3) ([]) (PySem.Value.none) (PySem.Value.none) (PySem.Value.none) (PySem.Value.str (PySem.Str.ofString "pagebase.paths") 790) (none) (PySem.Value.ref 505) (PySem.Value.none) (0) } := ⟨_, by conv => { rhs; whnf }⟩
noncomputable def fd513 : { f : FuncData // f = mkFd (nth PW.main.body 43) (Str.ofString "guess") (Str.ofString "guess") (3) ([]) (PySem.Value.none) (PySem.Value.none) (PySem.Value.none) (PySem.Value.str (PySem.Str.ofString "pagebase.paths") 790) (none) (PySem.Value.ref 512) (PySem.Value.none) (0) } := ⟨_, by conv => { rhs; whnf }⟩
noncomputable def fd518 : { f : FuncData // f = mkFd (nth PW.main.body 44) (Str.ofString "rowid_paths") (Str.ofString "rowid_paths") (3) ([]) (PySem.Value.none) (PySem.Value.none) (PySem.Value.none) (PySem.Value.str (PySem.Str.ofString "pagebase.paths") 790) (none) (PySem.Value.ref 517) (PySem.Value.none) (0) } := ⟨_, by conv => { rhs; whnf }⟩
noncomputable def fd525 : { f : FuncData // f = mkFd (nth PW.main.body 45) (Str.ofString "fits_column") (Str.ofString "fits_column") (3) ([]) (PySem.Value.none) (PySem.Value.none) (PySem.Value.none) (PySem.Value.str (PySem.Str.ofString "pagebase.paths") 790) (none) (PySem.Value.ref 524) (PySem.Value.none) (0) } := ⟨_, by conv => { rhs; whnf }⟩
noncomputable def fd532 : { f : FuncData // f = mkFd (nth PW.main.body 46) (Str.ofString "index_paths") (Str.ofString "index_paths") (3) ([]) (PySem.Value.none) (PySem.Value.none) (PySem.Value.none) (PySem.Value.str (PySem.Str.ofString "pagebase.paths") 790) (none) (PySem.Value.ref 531) (PySem.Value.none) (0) } := ⟨_, by conv => { rhs; whnf }⟩
noncomputable def fd539 : { f : FuncData // f = mkFd (nth PW.main.body 47) (Str.ofString "new_index_path") (Str.ofString "new_index_path") (3) ([]) (PySem.Value.none) (PySem.Value.none) (PySem.Value.none) (PySem.Value.str (PySem.Str.ofString "pagebase.paths") 790) (none) (PySem.Value.ref 538) (PySem.Value.none) (0) } := ⟨_, by conv => { rhs; whnf }⟩
noncomputable def fd546 : { f : FuncData // f = mkFd (nth PW.main.body 48) (Str.ofString "scan_path") (Str.ofString "scan_path") (3) ([]) (PySem.Value.none) (PySem.Value.none) (PySem.Value.none) (PySem.Value.str (PySem.Str.ofString "pagebase.paths") 790) (none) (PySem.Value.ref 545) (PySem.Value.none) (0) } := ⟨_, by conv => { rhs; whnf }⟩
noncomputable def fd553 : { f : FuncData // f = mkFd (nth PW.main.body 52) (Str.ofString "cost_of") (Str.ofString "cost_of") (3) ([]) (PySem.Value.none) (PySem.Value.none) (PySem.Value.none) (PySem.Value.str (PySem.Str.ofString "pagebase.plans") 980) (none) (PySem.Value.ref 552) (PySem.Value.none) (0) } := ⟨_, by conv => { rhs; whnf }⟩
noncomputable def fd567 : { f : FuncData // f = mkFd (nth (clsBody (nth PW.main.body 54)) 0) (Str.ofString "__init__") (Str.ofString "Source.__init__") (3) ([]) (PySem.Value.none) (PySem.Value.none) (PySem.Value.none) (PySem.Value.str (PySem.Str.ofString "pagebase.sources") 999) (none) (PySem.Value.ref 566) (PySem.Value.none) (0) } := ⟨_, by conv => { rhs; whnf }⟩
noncomputable def fd602 : { f : FuncData // f = mkFd (nth (clsBody (nth PW.main.body 56)) 0) (Str.ofString "__init__") (Str.ofString "Index.__init__") (3) ([]) (PySem.Value.none) (PySem.Value.none) (PySem.Value.none) (PySem.Value.str (PySem.Str.ofString "pagebase.tables") 1060) (none) (PySem.Value.ref 601) (PySem.Value.none) (0) } := ⟨_, by conv => { rhs; whnf }⟩
noncomputable def fd635 : { f : FuncData // f = mkFd (nth (clsBody (nth PW.main.body 57)) 0) (Str.ofString "__init__") (Str.ofString "Table.__init__") (3) ([]) (PySem.Value.none) (PySem.Value.none) (PySem.Value.none) (PySem.Value.str (PySem.Str.ofString "pagebase.tables") 1060) (none) (PySem.Value.ref 634) (PySem.Value.none) (0) } := ⟨_, by conv => { rhs; whnf }⟩
noncomputable def fd670 : { f : FuncData // f = mkFd (nth PW.main.body 59) (Str.ofString "_law_pool") (Str.ofString "_law_pool") (3) ([]) (PySem.Value.none) (PySem.Value.none) (PySem.Value.none) (PySem.Value.str (PySem.Str.ofString "law_nt0116_01") 1177) (none) (PySem.Value.ref 669) (PySem.Value.none) (0) } := ⟨_, by conv => { rhs; whnf }⟩
noncomputable def fd677 : { f : FuncData // f = mkFd (nth PW.main.body 60) (Str.ofString "_law_take") (Str.ofString "_law_take") (3) ([]) (PySem.Value.none) (PySem.Value.none) (PySem.Value.none) (PySem.Value.str (PySem.Str.ofString "law_nt0116_01") 1177) (none) (PySem.Value.ref 676) (PySem.Value.none) (0) } := ⟨_, by conv => { rhs; whnf }⟩
noncomputable def fd684 : { f : FuncData // f = mkFd (nth PW.main.body 61) (Str.ofString "_law_one") (Str.ofString "_law_one") (3) ([]) (PySem.Value.none) (PySem.Value.none) (PySem.Value.none) (PySem.Value.str (PySem.Str.ofString "law_nt0116_01") 1177) (none) (PySem.Value.ref 683) (PySem.Value.none) (0) } := ⟨_, by conv => { rhs; whnf }⟩
noncomputable def fd689 : { f : FuncData // f = mkFd (nth PW.main.body 62) (Str.ofString "_law_bound") (Str.ofString "_law_bound") (3) ([]) (PySem.Value.none) (PySem.Value.none) (PySem.Value.none) (PySem.Value.str (PySem.Str.ofString "law_nt0116_01") 1177) (none) (PySem.Value.ref 688) (PySem.Value.none) (0) } := ⟨_, by conv => { rhs; whnf }⟩
noncomputable def fd696 : { f : FuncData // f = mkFd (nth PW.main.body 63) (Str.ofString "_law_due") (Str.ofString "_law_due") (3) ([]) (PySem.Value.none) (PySem.Value.none) (PySem.Value.none) (PySem.Value.str (PySem.Str.ofString "law_nt0116_01") 1177) (none) (PySem.Value.ref 695) (PySem.Value.none) (0) } := ⟨_, by conv => { rhs; whnf }⟩
noncomputable def fd701 : { f : FuncData // f = mkFd (nth PW.main.body 64) (Str.ofString "law") (Str.ofString "law") (3) ([]) (PySem.Value.none) (PySem.Value.none) (PySem.Value.none) (PySem.Value.str (PySem.Str.ofString "law_nt0116_01") 1177) (none) (PySem.Value.ref 700) (PySem.Value.none) (0) } := ⟨_, by conv => { rhs; whnf }⟩
noncomputable def KF : Params → Frag := fun P =>
  (nat_lit 2, PySem.Obj.mk PySem.Value.none none (PySem.Data.dict #[]) #[]) ::
  (nat_lit 3, PySem.Obj.mk (PySem.Value.type "dict") none
  (PySem.Data.dict
    (List.toArray (PySem.DictEntry.mk (PySem.PyData.keyHash P (PySem.Str.ofString "__name__"))
        (PySem.Value.str (PySem.Str.ofString "__name__") 165)
        (PySem.Value.str (PySem.Str.ofString "law_nt0116_01") 1177) ::
      PySem.DictEntry.mk (PySem.PyData.keyHash P (PySem.Str.ofString "__doc__"))
        (PySem.Value.str (PySem.Str.ofString "__doc__") 166) PySem.Value.none ::
      PySem.DictEntry.mk (PySem.PyData.keyHash P (PySem.Str.ofString "__package__"))
        (PySem.Value.str (PySem.Str.ofString "__package__") 167) PySem.Value.none ::
      PySem.DictEntry.mk (PySem.PyData.keyHash P (PySem.Str.ofString "__loader__"))
        (PySem.Value.str (PySem.Str.ofString "__loader__") 168) (PySem.Value.builtin "__main__.__loader__#opaque") ::
      PySem.DictEntry.mk (PySem.PyData.keyHash P (PySem.Str.ofString "__spec__"))
        (PySem.Value.str (PySem.Str.ofString "__spec__") 169) PySem.Value.none ::
      PySem.DictEntry.mk (PySem.PyData.keyHash P (PySem.Str.ofString "__annotations__"))
        (PySem.Value.str (PySem.Str.ofString "__annotations__") 170) (PySem.Value.ref 6) ::
      PySem.DictEntry.mk (PySem.PyData.keyHash P (PySem.Str.ofString "__builtins__"))
        (PySem.Value.str (PySem.Str.ofString "__builtins__") 171) (PySem.Value.ref 4) ::
      PySem.DictEntry.mk (PySem.PyData.keyHash P (PySem.Str.ofString "__file__"))
        (PySem.Value.str (PySem.Str.ofString "__file__") 173)
        (PySem.Value.str (PySem.Str.ofString "/claim/cut.py") 172) ::
      PySem.DictEntry.mk (PySem.PyData.keyHash P (PySem.Str.ofString "__cached__"))
        (PySem.Value.str (PySem.Str.ofString "__cached__") 174) PySem.Value.none ::
      PySem.DictEntry.mk (PySem.PyData.keyHash P (PySem.Str.ofString "_wall"))
        (PySem.Value.str (PySem.Str.ofString "_wall") 193) (PySem.Value.ref 21) ::
      PySem.DictEntry.mk (PySem.PyData.keyHash P (PySem.Str.ofString "fold"))
        (PySem.Value.str (PySem.Str.ofString "fold") 201) (PySem.Value.ref 26) ::
      PySem.DictEntry.mk (PySem.PyData.keyHash P (PySem.Str.ofString "row_of"))
        (PySem.Value.str (PySem.Str.ofString "row_of") 210) (PySem.Value.ref 33) ::
      PySem.DictEntry.mk (PySem.PyData.keyHash P (PySem.Str.ofString "rows_of"))
        (PySem.Value.str (PySem.Str.ofString "rows_of") 216) (PySem.Value.ref 38) ::
      PySem.DictEntry.mk (PySem.PyData.keyHash P (PySem.Str.ofString "Node"))
        (PySem.Value.str (PySem.Str.ofString "Node") 243) (PySem.Value.ref 55) ::
      PySem.DictEntry.mk (PySem.PyData.keyHash P (PySem.Str.ofString "Expr"))
        (PySem.Value.str (PySem.Str.ofString "Expr") 259) (PySem.Value.ref 69) ::
      PySem.DictEntry.mk (PySem.PyData.keyHash P (PySem.Str.ofString "Literal"))
        (PySem.Value.str (PySem.Str.ofString "Literal") 291) (PySem.Value.ref 95) ::
      PySem.DictEntry.mk (PySem.PyData.keyHash P (PySem.Str.ofString "Name"))
        (PySem.Value.str (PySem.Str.ofString "Name") 328) (PySem.Value.ref 121) ::
      PySem.DictEntry.mk (PySem.PyData.keyHash P (PySem.Str.ofString "Unary"))
        (PySem.Value.str (PySem.Str.ofString "Unary") 362) (PySem.Value.ref 147) ::
      PySem.DictEntry.mk (PySem.PyData.keyHash P (PySem.Str.ofString "Binary"))
        (PySem.Value.str (PySem.Str.ofString "Binary") 398) (PySem.Value.ref 173) ::
      PySem.DictEntry.mk (PySem.PyData.keyHash P (PySem.Str.ofString "Between"))
        (PySem.Value.str (PySem.Str.ofString "Between") 436) (PySem.Value.ref 199) ::
      PySem.DictEntry.mk (PySem.PyData.keyHash P (PySem.Str.ofString "InList"))
        (PySem.Value.str (PySem.Str.ofString "InList") 472) (PySem.Value.ref 225) ::
      PySem.DictEntry.mk (PySem.PyData.keyHash P (PySem.Str.ofString "InSelect"))
        (PySem.Value.str (PySem.Str.ofString "InSelect") 508) (PySem.Value.ref 251) ::
      PySem.DictEntry.mk (PySem.PyData.keyHash P (PySem.Str.ofString "Exists"))
        (PySem.Value.str (PySem.Str.ofString "Exists") 542) (PySem.Value.ref 277) ::
      PySem.DictEntry.mk (PySem.PyData.keyHash P (PySem.Str.ofString "Call"))
        (PySem.Value.str (PySem.Str.ofString "Call") 580) (PySem.Value.ref 303) ::
      PySem.DictEntry.mk (PySem.PyData.keyHash P (PySem.Str.ofString "Cast"))
        (PySem.Value.str (PySem.Str.ofString "Cast") 614) (PySem.Value.ref 329) ::
      PySem.DictEntry.mk (PySem.PyData.keyHash P (PySem.Str.ofString "IsNull"))
        (PySem.Value.str (PySem.Str.ofString "IsNull") 648) (PySem.Value.ref 355) ::
      PySem.DictEntry.mk (PySem.PyData.keyHash P (PySem.Str.ofString "Match"))
        (PySem.Value.str (PySem.Str.ofString "Match") 689) (PySem.Value.ref 381) ::
      PySem.DictEntry.mk (PySem.PyData.keyHash P (PySem.Str.ofString "SPACES"))
        (PySem.Value.str (PySem.Str.ofString "SPACES") 693)
        (PySem.Value.str (PySem.Str.ofString " \t\n\x0b\x0c\x0d") 692) ::
      PySem.DictEntry.mk (PySem.PyData.keyHash P (PySem.Str.ofString "fold_ascii"))
        (PySem.Value.str (PySem.Str.ofString "fold_ascii") 702) (PySem.Value.ref 390) ::
      PySem.DictEntry.mk (PySem.PyData.keyHash P (PySem.Str.ofString "affinity_of_type"))
        (PySem.Value.str (PySem.Str.ofString "affinity_of_type") 711) (PySem.Value.ref 397) ::
      PySem.DictEntry.mk (PySem.PyData.keyHash P (PySem.Str.ofString "TRUTH_OPS"))
        (PySem.Value.str (PySem.Str.ofString "TRUTH_OPS") 724) (PySem.Value.ref 398) ::
      PySem.DictEntry.mk (PySem.PyData.keyHash P (PySem.Str.ofString "NUMBER_OPS"))
        (PySem.Value.str (PySem.Str.ofString "NUMBER_OPS") 734) (PySem.Value.ref 399) ::
      PySem.DictEntry.mk (PySem.PyData.keyHash P (PySem.Str.ofString "NUMBER_CALLS"))
        (PySem.Value.str (PySem.Str.ofString "NUMBER_CALLS") 737) (PySem.Value.ref 400) ::
      PySem.DictEntry.mk (PySem.PyData.keyHash P (PySem.Str.ofString "Bound"))
        (PySem.Value.str (PySem.Str.ofString "Bound") 774) (PySem.Value.ref 417) ::
      PySem.DictEntry.mk (PySem.PyData.keyHash P (PySem.Str.ofString "is_rowid_place"))
        (PySem.Value.str (PySem.Str.ofString "is_rowid_place") 782) (PySem.Value.ref 428) ::
      PySem.DictEntry.mk (PySem.PyData.keyHash P (PySem.Str.ofString "surely_integer"))
        (PySem.Value.str (PySem.Str.ofString "surely_integer") 789) (PySem.Value.ref 435) ::
      PySem.DictEntry.mk (PySem.PyData.keyHash P (PySem.Str.ofString "ROWS_OF_TABLE"))
        (PySem.Value.str (PySem.Str.ofString "ROWS_OF_TABLE") 793) (PySem.Value.int 1000 792) ::
      PySem.DictEntry.mk (PySem.PyData.keyHash P (PySem.Str.ofString "ROWS_OF_SELECT"))
        (PySem.Value.str (PySem.Str.ofString "ROWS_OF_SELECT") 795) (PySem.Value.int 200 794) ::
      PySem.DictEntry.mk (PySem.PyData.keyHash P (PySem.Str.ofString "ROW_BY_TABLE"))
        (PySem.Value.str (PySem.Str.ofString "ROW_BY_TABLE") 797) (PySem.Value.int 2 796) ::
      PySem.DictEntry.mk (PySem.PyData.keyHash P (PySem.Str.ofString "ROW_BY_INDEX"))
        (PySem.Value.str (PySem.Str.ofString "ROW_BY_INDEX") 799) (PySem.Value.int 2 798) ::
      PySem.DictEntry.mk (PySem.PyData.keyHash P (PySem.Str.ofString "ROW_BY_BOTH"))
        (PySem.Value.str (PySem.Str.ofString "ROW_BY_BOTH") 801) (PySem.Value.int 3 800) ::
      PySem.DictEntry.mk (PySem.PyData.keyHash P (PySem.Str.ofString "DESCENT"))
        (PySem.Value.str (PySem.Str.ofString "DESCENT") 803) (PySem.Value.int 4 802) ::
      PySem.DictEntry.mk (PySem.PyData.keyHash P (PySem.Str.ofString "Path"))
        (PySem.Value.str (PySem.Str.ofString "Path") 870) (PySem.Value.ref 474) ::
      PySem.DictEntry.mk (PySem.PyData.keyHash P (PySem.Str.ofString "first_bound"))
        (PySem.Value.str (PySem.Str.ofString "first_bound") 885) (PySem.Value.ref 485) ::
      PySem.DictEntry.mk (PySem.PyData.keyHash P (PySem.Str.ofString "put_equal"))
        (PySem.Value.str (PySem.Str.ofString "put_equal") 893) (PySem.Value.ref 492) ::
      PySem.DictEntry.mk (PySem.PyData.keyHash P (PySem.Str.ofString "put_list"))
        (PySem.Value.str (PySem.Str.ofString "put_list") 901) (PySem.Value.ref 499) ::
      PySem.DictEntry.mk (PySem.PyData.keyHash P (PySem.Str.ofString "put_range"))
        (PySem.Value.str (PySem.Str.ofString "put_range") 910) (PySem.Value.ref 506) ::
      PySem.DictEntry.mk (PySem.PyData.keyHash P (PySem.Str.ofString "guess"))
        (PySem.Value.str (PySem.Str.ofString "guess") 922) (PySem.Value.ref 513) ::
      PySem.DictEntry.mk (PySem.PyData.keyHash P (PySem.Str.ofString "rowid_paths"))
        (PySem.Value.str (PySem.Str.ofString "rowid_paths") 928) (PySem.Value.ref 518) ::
      PySem.DictEntry.mk (PySem.PyData.keyHash P (PySem.Str.ofString "fits_column"))
        (PySem.Value.str (PySem.Str.ofString "fits_column") 939) (PySem.Value.ref 525) ::
      PySem.DictEntry.mk (PySem.PyData.keyHash P (PySem.Str.ofString "index_paths"))
        (PySem.Value.str (PySem.Str.ofString "index_paths") 960) (PySem.Value.ref 532) ::
      PySem.DictEntry.mk (PySem.PyData.keyHash P (PySem.Str.ofString "new_index_path"))
        (PySem.Value.str (PySem.Str.ofString "new_index_path") 971) (PySem.Value.ref 539) ::
      PySem.DictEntry.mk (PySem.PyData.keyHash P (PySem.Str.ofString "scan_path"))
        (PySem.Value.str (PySem.Str.ofString "scan_path") 979) (PySem.Value.ref 546) ::
      PySem.DictEntry.mk (PySem.PyData.keyHash P (PySem.Str.ofString "ROWS_AT_MOST"))
        (PySem.Value.str (PySem.Str.ofString "ROWS_AT_MOST") 985) (PySem.Value.int 1000000000000 984) ::
      PySem.DictEntry.mk (PySem.PyData.keyHash P (PySem.Str.ofString "SORTED_ROW"))
        (PySem.Value.str (PySem.Str.ofString "SORTED_ROW") 987) (PySem.Value.int 4 986) ::
      PySem.DictEntry.mk (PySem.PyData.keyHash P (PySem.Str.ofString "cost_of"))
        (PySem.Value.str (PySem.Str.ofString "cost_of") 998) (PySem.Value.ref 553) ::
      PySem.DictEntry.mk (PySem.PyData.keyHash P (PySem.Str.ofString "Source"))
        (PySem.Value.str (PySem.Str.ofString "Source") 1059) (PySem.Value.ref 584) ::
      PySem.DictEntry.mk (PySem.PyData.keyHash P (PySem.Str.ofString "Index"))
        (PySem.Value.str (PySem.Str.ofString "Index") 1115) (PySem.Value.ref 617) ::
      PySem.DictEntry.mk (PySem.PyData.keyHash P (PySem.Str.ofString "Table"))
        (PySem.Value.str (PySem.Str.ofString "Table") 1176) (PySem.Value.ref 659) ::
      PySem.DictEntry.mk (PySem.PyData.keyHash P (PySem.Str.ofString "_law_pool"))
        (PySem.Value.str (PySem.Str.ofString "_law_pool") 1189) (PySem.Value.ref 670) ::
      PySem.DictEntry.mk (PySem.PyData.keyHash P (PySem.Str.ofString "_law_take"))
        (PySem.Value.str (PySem.Str.ofString "_law_take") 1198) (PySem.Value.ref 677) ::
      PySem.DictEntry.mk (PySem.PyData.keyHash P (PySem.Str.ofString "_law_one"))
        (PySem.Value.str (PySem.Str.ofString "_law_one") 1206) (PySem.Value.ref 684) ::
      PySem.DictEntry.mk (PySem.PyData.keyHash P (PySem.Str.ofString "_law_bound"))
        (PySem.Value.str (PySem.Str.ofString "_law_bound") 1212) (PySem.Value.ref 689) ::
      PySem.DictEntry.mk (PySem.PyData.keyHash P (PySem.Str.ofString "_law_due"))
        (PySem.Value.str (PySem.Str.ofString "_law_due") 1228) (PySem.Value.ref 696) ::
      PySem.DictEntry.mk (PySem.PyData.keyHash P (PySem.Str.ofString "law"))
        (PySem.Value.str (PySem.Str.ofString "law") 1234) (PySem.Value.ref 701) :: []))
    65)
  #[]) ::
  (nat_lit 54, PySem.Obj.mk (PySem.Value.type "dict") none
  (PySem.Data.dict
    #[PySem.DictEntry.mk (PySem.PyData.keyHash P (PySem.Str.ofString "__module__"))
        (PySem.Value.str (PySem.Str.ofString "__module__") 224)
        (PySem.Value.str (PySem.Str.ofString "pagebase.nodes") 202),
      PySem.DictEntry.mk (PySem.PyData.keyHash P (PySem.Str.ofString "__firstlineno__"))
        (PySem.Value.str (PySem.Str.ofString "__firstlineno__") 228) (PySem.Value.int 12 227),
      PySem.DictEntry.mk (PySem.PyData.keyHash P (PySem.Str.ofString "row"))
        (PySem.Value.str (PySem.Str.ofString "row") 235) (PySem.Value.ref 52),
      PySem.DictEntry.mk (PySem.PyData.keyHash P (PySem.Str.ofString "__static_attributes__"))
        (PySem.Value.str (PySem.Str.ofString "__static_attributes__") 236) (PySem.Value.ref 53),
      PySem.DictEntry.mk (PySem.PyData.keyHash P (PySem.Str.ofString "__dict__"))
        (PySem.Value.str (PySem.Str.ofString "__dict__") 238) (PySem.Value.ref 56),
      PySem.DictEntry.mk (PySem.PyData.keyHash P (PySem.Str.ofString "__weakref__"))
        (PySem.Value.str (PySem.Str.ofString "__weakref__") 240) (PySem.Value.ref 57),
      PySem.DictEntry.mk (PySem.PyData.keyHash P (PySem.Str.ofString "__doc__"))
        (PySem.Value.str (PySem.Str.ofString "__doc__") 241) PySem.Value.none]
    4)
  #[]) ::
  (nat_lit 55, PySem.Obj.mk (PySem.Value.type "type") none
  (PySem.Data.cls
    (PySem.ClassData.mk (PySem.Str.ofString "Node") [PySem.Value.type "object"]
      [PySem.Value.ref 55, PySem.Value.type "object"] 54 (PySem.Str.ofString "Node") true [] [PySem.Value.ref 69] false
      none false))
  #[none, none, some (PySem.Value.str (PySem.Str.ofString "Node") 217),
    some (PySem.Value.str (PySem.Str.ofString "Node") 225), some (PySem.Value.builtin "object.__new__"),
    some (PySem.Value.bool true)]) ::
  (nat_lit 68, PySem.Obj.mk (PySem.Value.type "dict") none
  (PySem.Data.dict
    #[PySem.DictEntry.mk (PySem.PyData.keyHash P (PySem.Str.ofString "__module__"))
        (PySem.Value.str (PySem.Str.ofString "__module__") 251)
        (PySem.Value.str (PySem.Str.ofString "pagebase.nodes") 202),
      PySem.DictEntry.mk (PySem.PyData.keyHash P (PySem.Str.ofString "__firstlineno__"))
        (PySem.Value.str (PySem.Str.ofString "__firstlineno__") 255) (PySem.Value.int 16 254),
      PySem.DictEntry.mk (PySem.PyData.keyHash P (PySem.Str.ofString "__static_attributes__"))
        (PySem.Value.str (PySem.Str.ofString "__static_attributes__") 256) (PySem.Value.ref 67),
      PySem.DictEntry.mk (PySem.PyData.keyHash P (PySem.Str.ofString "__doc__"))
        (PySem.Value.str (PySem.Str.ofString "__doc__") 257) PySem.Value.none]
    2)
  #[]) ::
  (nat_lit 69, PySem.Obj.mk (PySem.Value.type "type") none
  (PySem.Data.cls
    (PySem.ClassData.mk (PySem.Str.ofString "Expr") [PySem.Value.ref 55]
      [PySem.Value.ref 69, PySem.Value.ref 55, PySem.Value.type "object"] 68 (PySem.Str.ofString "Expr") true []
      [PySem.Value.ref 95, PySem.Value.ref 121, PySem.Value.ref 147, PySem.Value.ref 173, PySem.Value.ref 199,
        PySem.Value.ref 225, PySem.Value.ref 251, PySem.Value.ref 277, PySem.Value.ref 303, PySem.Value.ref 329,
        PySem.Value.ref 355, PySem.Value.ref 381]
      false none false))
  #[some (PySem.Value.ref 60), none, some (PySem.Value.str (PySem.Str.ofString "Expr") 244),
    some (PySem.Value.str (PySem.Str.ofString "Expr") 252), some (PySem.Value.builtin "object.__new__"),
    some (PySem.Value.bool true)]) ::
  (nat_lit 84, PySem.Obj.mk (PySem.Value.type "code") none
  (PySem.Data.fields
    #[PySem.Value.str (PySem.Str.ofString "__init__") 272, PySem.Value.str (PySem.Str.ofString "Literal.__init__") 273,
      PySem.Value.str (PySem.Str.ofString "/claim/cut.py") 274, PySem.Value.int 20 0, PySem.Value.int 2 0,
      PySem.Value.int 0 0, PySem.Value.int 0 0, PySem.Value.int 3 0, PySem.Value.ref 79, PySem.Value.bool true,
      PySem.Value.int 181 0, PySem.Value.ref 80, PySem.Value.none, PySem.Value.ref 81, PySem.Value.ref 82,
      PySem.Value.ref 83, PySem.Value.int 277 0, PySem.Value.int 20 0,
      PySem.Value.str (PySem.Str.ofString "/claim/cut.py") 278])
  #[]) ::
  (nat_lit 85, PySem.Obj.mk (PySem.Value.type "function") (none) (PySem.Data.func fd85.1) (#[])) ::
  (nat_lit 94, PySem.Obj.mk (PySem.Value.type "dict") none
  (PySem.Data.dict
    #[PySem.DictEntry.mk (PySem.PyData.keyHash P (PySem.Str.ofString "__module__"))
        (PySem.Value.str (PySem.Str.ofString "__module__") 267)
        (PySem.Value.str (PySem.Str.ofString "pagebase.nodes") 202),
      PySem.DictEntry.mk (PySem.PyData.keyHash P (PySem.Str.ofString "__firstlineno__"))
        (PySem.Value.str (PySem.Str.ofString "__firstlineno__") 271) (PySem.Value.int 18 270),
      PySem.DictEntry.mk (PySem.PyData.keyHash P (PySem.Str.ofString "__init__"))
        (PySem.Value.str (PySem.Str.ofString "__init__") 279) (PySem.Value.ref 85),
      PySem.DictEntry.mk (PySem.PyData.keyHash P (PySem.Str.ofString "row"))
        (PySem.Value.str (PySem.Str.ofString "row") 286) (PySem.Value.ref 92),
      PySem.DictEntry.mk (PySem.PyData.keyHash P (PySem.Str.ofString "__static_attributes__"))
        (PySem.Value.str (PySem.Str.ofString "__static_attributes__") 288) (PySem.Value.ref 93),
      PySem.DictEntry.mk (PySem.PyData.keyHash P (PySem.Str.ofString "__doc__"))
        (PySem.Value.str (PySem.Str.ofString "__doc__") 289) PySem.Value.none]
    2)
  #[]) ::
  (nat_lit 95, PySem.Obj.mk (PySem.Value.type "type") none
  (PySem.Data.cls
    (PySem.ClassData.mk (PySem.Str.ofString "Literal") [PySem.Value.ref 69]
      [PySem.Value.ref 95, PySem.Value.ref 69, PySem.Value.ref 55, PySem.Value.type "object"] 94
      (PySem.Str.ofString "Literal") true [] [] false none false))
  #[some (PySem.Value.ref 72), none, some (PySem.Value.str (PySem.Str.ofString "Literal") 260),
    some (PySem.Value.str (PySem.Str.ofString "Literal") 268), some (PySem.Value.builtin "object.__new__"),
    some (PySem.Value.bool true)]) ::
  (nat_lit 413, PySem.Obj.mk (PySem.Value.type "code") none
  (PySem.Data.fields
    #[PySem.Value.str (PySem.Str.ofString "__init__") 750, PySem.Value.str (PySem.Str.ofString "Bound.__init__") 751,
      PySem.Value.str (PySem.Str.ofString "/claim/cut.py") 752, PySem.Value.int 159 0, PySem.Value.int 6 0,
      PySem.Value.int 0 0, PySem.Value.int 0 0, PySem.Value.int 3 0, PySem.Value.ref 408, PySem.Value.bool true,
      PySem.Value.int 181 0, PySem.Value.ref 409, PySem.Value.none, PySem.Value.ref 410, PySem.Value.ref 411,
      PySem.Value.ref 412, PySem.Value.int 759 0, PySem.Value.int 159 0,
      PySem.Value.str (PySem.Str.ofString "/claim/cut.py") 760])
  #[]) ::
  (nat_lit 414, PySem.Obj.mk (PySem.Value.type "function") (none) (PySem.Data.func fd414.1) (#[])) ::
  (nat_lit 416, PySem.Obj.mk (PySem.Value.type "dict") none
  (PySem.Data.dict
    #[PySem.DictEntry.mk (PySem.PyData.keyHash P (PySem.Str.ofString "__module__"))
        (PySem.Value.str (PySem.Str.ofString "__module__") 745)
        (PySem.Value.str (PySem.Str.ofString "pagebase.terms") 712),
      PySem.DictEntry.mk (PySem.PyData.keyHash P (PySem.Str.ofString "__firstlineno__"))
        (PySem.Value.str (PySem.Str.ofString "__firstlineno__") 749) (PySem.Value.int 157 748),
      PySem.DictEntry.mk (PySem.PyData.keyHash P (PySem.Str.ofString "__init__"))
        (PySem.Value.str (PySem.Str.ofString "__init__") 761) (PySem.Value.ref 414),
      PySem.DictEntry.mk (PySem.PyData.keyHash P (PySem.Str.ofString "__static_attributes__"))
        (PySem.Value.str (PySem.Str.ofString "__static_attributes__") 767) (PySem.Value.ref 415),
      PySem.DictEntry.mk (PySem.PyData.keyHash P (PySem.Str.ofString "__dict__"))
        (PySem.Value.str (PySem.Str.ofString "__dict__") 769) (PySem.Value.ref 418),
      PySem.DictEntry.mk (PySem.PyData.keyHash P (PySem.Str.ofString "__weakref__"))
        (PySem.Value.str (PySem.Str.ofString "__weakref__") 771) (PySem.Value.ref 419),
      PySem.DictEntry.mk (PySem.PyData.keyHash P (PySem.Str.ofString "__doc__"))
        (PySem.Value.str (PySem.Str.ofString "__doc__") 772) PySem.Value.none]
    4)
  #[]) ::
  (nat_lit 417, PySem.Obj.mk (PySem.Value.type "type") none
  (PySem.Data.cls
    (PySem.ClassData.mk (PySem.Str.ofString "Bound") [PySem.Value.type "object"]
      [PySem.Value.ref 417, PySem.Value.type "object"] 416 (PySem.Str.ofString "Bound") true [] [] false none false))
  #[none, none, some (PySem.Value.str (PySem.Str.ofString "Bound") 738),
    some (PySem.Value.str (PySem.Str.ofString "Bound") 746), some (PySem.Value.builtin "object.__new__"),
    some (PySem.Value.bool true)]) ::
  (nat_lit 427, PySem.Obj.mk (PySem.Value.type "code") none
  (PySem.Data.fields
    #[PySem.Value.str (PySem.Str.ofString "is_rowid_place") 775,
      PySem.Value.str (PySem.Str.ofString "is_rowid_place") 776,
      PySem.Value.str (PySem.Str.ofString "/claim/cut.py") 777, PySem.Value.int 165 0, PySem.Value.int 2 0,
      PySem.Value.int 0 0, PySem.Value.int 0 0, PySem.Value.int 3 0, PySem.Value.ref 422, PySem.Value.bool true,
      PySem.Value.int 181 0, PySem.Value.ref 423, PySem.Value.none, PySem.Value.ref 424, PySem.Value.ref 425,
      PySem.Value.ref 426, PySem.Value.int 780 0, PySem.Value.int 165 0,
      PySem.Value.str (PySem.Str.ofString "/claim/cut.py") 781])
  #[]) ::
  (nat_lit 428, PySem.Obj.mk (PySem.Value.type "function") (none) (PySem.Data.func fd428.1) (#[])) ::
  (nat_lit 434, PySem.Obj.mk (PySem.Value.type "code") none
  (PySem.Data.fields
    #[PySem.Value.str (PySem.Str.ofString "surely_integer") 783,
      PySem.Value.str (PySem.Str.ofString "surely_integer") 784,
      PySem.Value.str (PySem.Str.ofString "/claim/cut.py") 785, PySem.Value.int 167 0, PySem.Value.int 1 0,
      PySem.Value.int 0 0, PySem.Value.int 0 0, PySem.Value.int 3 0, PySem.Value.ref 429, PySem.Value.bool true,
      PySem.Value.int 181 0, PySem.Value.ref 430, PySem.Value.none, PySem.Value.ref 431, PySem.Value.ref 432,
      PySem.Value.ref 433, PySem.Value.int 787 0, PySem.Value.int 167 0,
      PySem.Value.str (PySem.Str.ofString "/claim/cut.py") 788])
  #[]) ::
  (nat_lit 435, PySem.Obj.mk (PySem.Value.type "function") (none) (PySem.Data.func fd435.1) (#[])) ::
  (nat_lit 443, PySem.Obj.mk (PySem.Value.type "tuple") none (PySem.Data.seq #[PySem.Value.none]) #[]) ::
  (nat_lit 449, PySem.Obj.mk (PySem.Value.type "code") none
  (PySem.Data.fields
    #[PySem.Value.str (PySem.Str.ofString "__init__") 816, PySem.Value.str (PySem.Str.ofString "Path.__init__") 817,
      PySem.Value.str (PySem.Str.ofString "/claim/cut.py") 818, PySem.Value.int 190 0, PySem.Value.int 3 0,
      PySem.Value.int 0 0, PySem.Value.int 0 0, PySem.Value.int 3 0, PySem.Value.ref 444, PySem.Value.bool true,
      PySem.Value.int 181 0, PySem.Value.ref 445, PySem.Value.none, PySem.Value.ref 446, PySem.Value.ref 447,
      PySem.Value.ref 448, PySem.Value.int 822 0, PySem.Value.int 190 0,
      PySem.Value.str (PySem.Str.ofString "/claim/cut.py") 823])
  #[]) ::
  (nat_lit 450, PySem.Obj.mk (PySem.Value.type "function") (none) (PySem.Data.func fd450.1) (#[])) ::
  (nat_lit 456, PySem.Obj.mk (PySem.Value.type "code") none
  (PySem.Data.fields
    #[PySem.Value.str (PySem.Str.ofString "is_led") 825, PySem.Value.str (PySem.Str.ofString "Path.is_led") 826,
      PySem.Value.str (PySem.Str.ofString "/claim/cut.py") 827, PySem.Value.int 207 0, PySem.Value.int 1 0,
      PySem.Value.int 0 0, PySem.Value.int 0 0, PySem.Value.int 3 0, PySem.Value.ref 451, PySem.Value.bool true,
      PySem.Value.int 181 0, PySem.Value.ref 452, PySem.Value.none, PySem.Value.ref 453, PySem.Value.ref 454,
      PySem.Value.ref 455, PySem.Value.int 829 0, PySem.Value.int 207 0,
      PySem.Value.str (PySem.Str.ofString "/claim/cut.py") 830])
  #[]) ::
  (nat_lit 457, PySem.Obj.mk (PySem.Value.type "function") (none) (PySem.Data.func fd457.1) (#[])) ::
  (nat_lit 473, PySem.Obj.mk (PySem.Value.type "dict") none
  (PySem.Data.dict
    #[PySem.DictEntry.mk (PySem.PyData.keyHash P (PySem.Str.ofString "__module__"))
        (PySem.Value.str (PySem.Str.ofString "__module__") 811)
        (PySem.Value.str (PySem.Str.ofString "pagebase.paths") 790),
      PySem.DictEntry.mk (PySem.PyData.keyHash P (PySem.Str.ofString "__firstlineno__"))
        (PySem.Value.str (PySem.Str.ofString "__firstlineno__") 815) (PySem.Value.int 188 814),
      PySem.DictEntry.mk (PySem.PyData.keyHash P (PySem.Str.ofString "__init__"))
        (PySem.Value.str (PySem.Str.ofString "__init__") 824) (PySem.Value.ref 450),
      PySem.DictEntry.mk (PySem.PyData.keyHash P (PySem.Str.ofString "is_led"))
        (PySem.Value.str (PySem.Str.ofString "is_led") 831) (PySem.Value.ref 457),
      PySem.DictEntry.mk (PySem.PyData.keyHash P (PySem.Str.ofString "turned"))
        (PySem.Value.str (PySem.Str.ofString "turned") 839) (PySem.Value.ref 464),
      PySem.DictEntry.mk (PySem.PyData.keyHash P (PySem.Str.ofString "told"))
        (PySem.Value.str (PySem.Str.ofString "told") 847) (PySem.Value.ref 471),
      PySem.DictEntry.mk (PySem.PyData.keyHash P (PySem.Str.ofString "__static_attributes__"))
        (PySem.Value.str (PySem.Str.ofString "__static_attributes__") 863) (PySem.Value.ref 472),
      PySem.DictEntry.mk (PySem.PyData.keyHash P (PySem.Str.ofString "__dict__"))
        (PySem.Value.str (PySem.Str.ofString "__dict__") 865) (PySem.Value.ref 475),
      PySem.DictEntry.mk (PySem.PyData.keyHash P (PySem.Str.ofString "__weakref__"))
        (PySem.Value.str (PySem.Str.ofString "__weakref__") 867) (PySem.Value.ref 476),
      PySem.DictEntry.mk (PySem.PyData.keyHash P (PySem.Str.ofString "__doc__"))
        (PySem.Value.str (PySem.Str.ofString "__doc__") 868) PySem.Value.none]
    4)
  #[]) ::
  (nat_lit 474, PySem.Obj.mk (PySem.Value.type "type") none
  (PySem.Data.cls
    (PySem.ClassData.mk (PySem.Str.ofString "Path") [PySem.Value.type "object"]
      [PySem.Value.ref 474, PySem.Value.type "object"] 473 (PySem.Str.ofString "Path") true [] [] false none false))
  #[none, none, some (PySem.Value.str (PySem.Str.ofString "Path") 804),
    some (PySem.Value.str (PySem.Str.ofString "Path") 812), some (PySem.Value.builtin "object.__new__"),
    some (PySem.Value.bool true)]) ::
  (nat_lit 484, PySem.Obj.mk (PySem.Value.type "code") none
  (PySem.Data.fields
    #[PySem.Value.str (PySem.Str.ofString "first_bound") 871, PySem.Value.str (PySem.Str.ofString "first_bound") 872,
      PySem.Value.str (PySem.Str.ofString "/claim/cut.py") 873, PySem.Value.int 226 0, PySem.Value.int 3 0,
      PySem.Value.int 0 0, PySem.Value.int 0 0, PySem.Value.int 3 0, PySem.Value.ref 479, PySem.Value.bool true,
      PySem.Value.int 181 0, PySem.Value.ref 480, PySem.Value.none, PySem.Value.ref 481, PySem.Value.ref 482,
      PySem.Value.ref 483, PySem.Value.int 883 0, PySem.Value.int 226 0,
      PySem.Value.str (PySem.Str.ofString "/claim/cut.py") 884])
  #[]) ::
  (nat_lit 485, PySem.Obj.mk (PySem.Value.type "function") (none) (PySem.Data.func fd485.1) (#[])) ::
  (nat_lit 491, PySem.Obj.mk (PySem.Value.type "code") none
  (PySem.Data.fields
    #[PySem.Value.str (PySem.Str.ofString "put_equal") 886, PySem.Value.str (PySem.Str.ofString "put_equal") 887,
      PySem.Value.str (PySem.Str.ofString "/claim/cut.py") 888, PySem.Value.int 233 0, PySem.Value.int 2 0,
      PySem.Value.int 0 0, PySem.Value.int 0 0, PySem.Value.int 3 0, PySem.Value.ref 486, PySem.Value.bool true,
      PySem.Value.int 181 0, PySem.Value.ref 487, PySem.Value.none, PySem.Value.ref 488, PySem.Value.ref 489,
      PySem.Value.ref 490, PySem.Value.int 891 0, PySem.Value.int 233 0,
      PySem.Value.str (PySem.Str.ofString "/claim/cut.py") 892])
  #[]) ::
  (nat_lit 492, PySem.Obj.mk (PySem.Value.type "function") (none) (PySem.Data.func fd492.1) (#[])) ::
  (nat_lit 498, PySem.Obj.mk (PySem.Value.type "code") none
  (PySem.Data.fields
    #[PySem.Value.str (PySem.Str.ofString "put_list") 894, PySem.Value.str (PySem.Str.ofString "put_list") 895,
      PySem.Value.str (PySem.Str.ofString "/claim/cut.py") 896, PySem.Value.int 236 0, PySem.Value.int 2 0,
      PySem.Value.int 0 0, PySem.Value.int 0 0, PySem.Value.int 3 0, PySem.Value.ref 493, PySem.Value.bool true,
      PySem.Value.int 181 0, PySem.Value.ref 494, PySem.Value.none, PySem.Value.ref 495, PySem.Value.ref 496,
      PySem.Value.ref 497, PySem.Value.int 899 0, PySem.Value.int 236 0,
      PySem.Value.str (PySem.Str.ofString "/claim/cut.py") 900])
  #[]) ::
  (nat_lit 499, PySem.Obj.mk (PySem.Value.type "function") (none) (PySem.Data.func fd499.1) (#[])) ::
  (nat_lit 505, PySem.Obj.mk (PySem.Value.type "code") none
  (PySem.Data.fields
    #[PySem.Value.str (PySem.Str.ofString "put_range") 902, PySem.Value.str (PySem.Str.ofString "put_range") 903,
      PySem.Value.str (PySem.Str.ofString "/claim/cut.py") 904, PySem.Value.int 238 0, PySem.Value.int 3 0,
      PySem.Value.int 0 0, PySem.Value.int 0 0, PySem.Value.int 3 0, PySem.Value.ref 500, PySem.Value.bool true,
      PySem.Value.int 181 0, PySem.Value.ref 501, PySem.Value.none, PySem.Value.ref 502, PySem.Value.ref 503,
      PySem.Value.ref 504, PySem.Value.int 908 0, PySem.Value.int 238 0,
      PySem.Value.str (PySem.Str.ofString "/claim/cut.py") 909])
  #[]) ::
  (nat_lit 506, PySem.Obj.mk (PySem.Value.type "function") (none) (PySem.Data.func fd506.1) (#[])) ::
  (nat_lit 512, PySem.Obj.mk (PySem.Value.type "code") none
  (PySem.Data.fields
    #[PySem.Value.str (PySem.Str.ofString "guess") 911, PySem.Value.str (PySem.Str.ofString "guess") 912,
      PySem.Value.str (PySem.Str.ofString "/claim/cut.py") 913, PySem.Value.int 243 0, PySem.Value.int 3 0,
      PySem.Value.int 0 0, PySem.Value.int 0 0, PySem.Value.int 3 0, PySem.Value.ref 507, PySem.Value.bool true,
      PySem.Value.int 181 0, PySem.Value.ref 508, PySem.Value.none, PySem.Value.ref 509, PySem.Value.ref 510,
      PySem.Value.ref 511, PySem.Value.int 920 0, PySem.Value.int 243 0,
      PySem.Value.str (PySem.Str.ofString "/claim/cut.py") 921])
  #[]) ::
  (nat_lit 513, PySem.Obj.mk (PySem.Value.type "function") (none) (PySem.Data.func fd513.1) (#[])) ::
  (nat_lit 517, PySem.Obj.mk (PySem.Value.type "code") none
  (PySem.Data.fields
    #[PySem.Value.str (PySem.Str.ofString "rowid_paths") 923, PySem.Value.str (PySem.Str.ofString "rowid_paths") 924,
      PySem.Value.str (PySem.Str.ofString "/claim/cut.py") 925, PySem.Value.int 259 0, PySem.Value.int 2 0,
      PySem.Value.int 0 0, PySem.Value.int 0 0, PySem.Value.int 3 0, PySem.Value.ref 514, PySem.Value.bool true,
      PySem.Value.int 181 0, PySem.Value.ref 515, PySem.Value.none, PySem.Value.none, PySem.Value.none,
      PySem.Value.ref 516, PySem.Value.int 926 0, PySem.Value.int 259 0,
      PySem.Value.str (PySem.Str.ofString "/claim/cut.py") 927])
  #[]) ::
  (nat_lit 518, PySem.Obj.mk (PySem.Value.type "function") (none) (PySem.Data.func fd518.1) (#[])) ::
  (nat_lit 524, PySem.Obj.mk (PySem.Value.type "code") none
  (PySem.Data.fields
    #[PySem.Value.str (PySem.Str.ofString "fits_column") 929, PySem.Value.str (PySem.Str.ofString "fits_column") 930,
      PySem.Value.str (PySem.Str.ofString "/claim/cut.py") 931, PySem.Value.int 281 0, PySem.Value.int 2 0,
      PySem.Value.int 0 0, PySem.Value.int 0 0, PySem.Value.int 3 0, PySem.Value.ref 519, PySem.Value.bool true,
      PySem.Value.int 181 0, PySem.Value.ref 520, PySem.Value.none, PySem.Value.ref 521, PySem.Value.ref 522,
      PySem.Value.ref 523, PySem.Value.int 937 0, PySem.Value.int 281 0,
      PySem.Value.str (PySem.Str.ofString "/claim/cut.py") 938])
  #[]) ::
  (nat_lit 525, PySem.Obj.mk (PySem.Value.type "function") (none) (PySem.Data.func fd525.1) (#[])) ::
  (nat_lit 531, PySem.Obj.mk (PySem.Value.type "code") none
  (PySem.Data.fields
    #[PySem.Value.str (PySem.Str.ofString "index_paths") 940, PySem.Value.str (PySem.Str.ofString "index_paths") 941,
      PySem.Value.str (PySem.Str.ofString "/claim/cut.py") 942, PySem.Value.int 284 0, PySem.Value.int 4 0,
      PySem.Value.int 0 0, PySem.Value.int 0 0, PySem.Value.int 3 0, PySem.Value.ref 526, PySem.Value.bool true,
      PySem.Value.int 181 0, PySem.Value.ref 527, PySem.Value.none, PySem.Value.ref 528, PySem.Value.ref 529,
      PySem.Value.ref 530, PySem.Value.int 958 0, PySem.Value.int 284 0,
      PySem.Value.str (PySem.Str.ofString "/claim/cut.py") 959])
  #[]) ::
  (nat_lit 532, PySem.Obj.mk (PySem.Value.type "function") (none) (PySem.Data.func fd532.1) (#[])) ::
  (nat_lit 538, PySem.Obj.mk (PySem.Value.type "code") none
  (PySem.Data.fields
    #[PySem.Value.str (PySem.Str.ofString "new_index_path") 961,
      PySem.Value.str (PySem.Str.ofString "new_index_path") 962,
      PySem.Value.str (PySem.Str.ofString "/claim/cut.py") 963, PySem.Value.int 309 0, PySem.Value.int 3 0,
      PySem.Value.int 0 0, PySem.Value.int 0 0, PySem.Value.int 3 0, PySem.Value.ref 533, PySem.Value.bool true,
      PySem.Value.int 181 0, PySem.Value.ref 534, PySem.Value.none, PySem.Value.ref 535, PySem.Value.ref 536,
      PySem.Value.ref 537, PySem.Value.int 969 0, PySem.Value.int 309 0,
      PySem.Value.str (PySem.Str.ofString "/claim/cut.py") 970])
  #[]) ::
  (nat_lit 539, PySem.Obj.mk (PySem.Value.type "function") (none) (PySem.Data.func fd539.1) (#[])) ::
  (nat_lit 545, PySem.Obj.mk (PySem.Value.type "code") none
  (PySem.Data.fields
    #[PySem.Value.str (PySem.Str.ofString "scan_path") 972, PySem.Value.str (PySem.Str.ofString "scan_path") 973,
      PySem.Value.str (PySem.Str.ofString "/claim/cut.py") 974, PySem.Value.int 315 0, PySem.Value.int 1 0,
      PySem.Value.int 0 0, PySem.Value.int 0 0, PySem.Value.int 3 0, PySem.Value.ref 540, PySem.Value.bool true,
      PySem.Value.int 181 0, PySem.Value.ref 541, PySem.Value.none, PySem.Value.ref 542, PySem.Value.ref 543,
      PySem.Value.ref 544, PySem.Value.int 977 0, PySem.Value.int 315 0,
      PySem.Value.str (PySem.Str.ofString "/claim/cut.py") 978])
  #[]) ::
  (nat_lit 546, PySem.Obj.mk (PySem.Value.type "function") (none) (PySem.Data.func fd546.1) (#[])) ::
  (nat_lit 552, PySem.Obj.mk (PySem.Value.type "code") none
  (PySem.Data.fields
    #[PySem.Value.str (PySem.Str.ofString "cost_of") 988, PySem.Value.str (PySem.Str.ofString "cost_of") 989,
      PySem.Value.str (PySem.Str.ofString "/claim/cut.py") 990, PySem.Value.int 323 0, PySem.Value.int 2 0,
      PySem.Value.int 0 0, PySem.Value.int 0 0, PySem.Value.int 3 0, PySem.Value.ref 547, PySem.Value.bool true,
      PySem.Value.int 181 0, PySem.Value.ref 548, PySem.Value.none, PySem.Value.ref 549, PySem.Value.ref 550,
      PySem.Value.ref 551, PySem.Value.int 996 0, PySem.Value.int 323 0,
      PySem.Value.str (PySem.Str.ofString "/claim/cut.py") 997])
  #[]) ::
  (nat_lit 553, PySem.Obj.mk (PySem.Value.type "function") (none) (PySem.Data.func fd553.1) (#[])) ::
  (nat_lit 566, PySem.Obj.mk (PySem.Value.type "code") none
  (PySem.Data.fields
    #[PySem.Value.str (PySem.Str.ofString "__init__") 1013, PySem.Value.str (PySem.Str.ofString "Source.__init__") 1014,
      PySem.Value.str (PySem.Str.ofString "/claim/cut.py") 1015, PySem.Value.int 332 0, PySem.Value.int 8 0,
      PySem.Value.int 0 0, PySem.Value.int 0 0, PySem.Value.int 3 0, PySem.Value.ref 561, PySem.Value.bool true,
      PySem.Value.int 181 0, PySem.Value.ref 562, PySem.Value.none, PySem.Value.ref 563, PySem.Value.ref 564,
      PySem.Value.ref 565, PySem.Value.int 1024 0, PySem.Value.int 332 0,
      PySem.Value.str (PySem.Str.ofString "/claim/cut.py") 1025])
  #[]) ::
  (nat_lit 567, PySem.Obj.mk (PySem.Value.type "function") (none) (PySem.Data.func fd567.1) (#[])) ::
  (nat_lit 583, PySem.Obj.mk (PySem.Value.type "dict") none
  (PySem.Data.dict
    #[PySem.DictEntry.mk (PySem.PyData.keyHash P (PySem.Str.ofString "__module__"))
        (PySem.Value.str (PySem.Str.ofString "__module__") 1008)
        (PySem.Value.str (PySem.Str.ofString "pagebase.sources") 999),
      PySem.DictEntry.mk (PySem.PyData.keyHash P (PySem.Str.ofString "__firstlineno__"))
        (PySem.Value.str (PySem.Str.ofString "__firstlineno__") 1012) (PySem.Value.int 330 1011),
      PySem.DictEntry.mk (PySem.PyData.keyHash P (PySem.Str.ofString "__init__"))
        (PySem.Value.str (PySem.Str.ofString "__init__") 1026) (PySem.Value.ref 567),
      PySem.DictEntry.mk (PySem.PyData.keyHash P (PySem.Str.ofString "place_of"))
        (PySem.Value.str (PySem.Str.ofString "place_of") 1034) (PySem.Value.ref 574),
      PySem.DictEntry.mk (PySem.PyData.keyHash P (PySem.Str.ofString "is_named"))
        (PySem.Value.str (PySem.Str.ofString "is_named") 1042) (PySem.Value.ref 581),
      PySem.DictEntry.mk (PySem.PyData.keyHash P (PySem.Str.ofString "__static_attributes__"))
        (PySem.Value.str (PySem.Str.ofString "__static_attributes__") 1052) (PySem.Value.ref 582),
      PySem.DictEntry.mk (PySem.PyData.keyHash P (PySem.Str.ofString "__dict__"))
        (PySem.Value.str (PySem.Str.ofString "__dict__") 1054) (PySem.Value.ref 585),
      PySem.DictEntry.mk (PySem.PyData.keyHash P (PySem.Str.ofString "__weakref__"))
        (PySem.Value.str (PySem.Str.ofString "__weakref__") 1056) (PySem.Value.ref 586),
      PySem.DictEntry.mk (PySem.PyData.keyHash P (PySem.Str.ofString "__doc__"))
        (PySem.Value.str (PySem.Str.ofString "__doc__") 1057) PySem.Value.none]
    4)
  #[]) ::
  (nat_lit 584, PySem.Obj.mk (PySem.Value.type "type") none
  (PySem.Data.cls
    (PySem.ClassData.mk (PySem.Str.ofString "Source") [PySem.Value.type "object"]
      [PySem.Value.ref 584, PySem.Value.type "object"] 583 (PySem.Str.ofString "Source") true [] [] false none false))
  #[none, none, some (PySem.Value.str (PySem.Str.ofString "Source") 1001),
    some (PySem.Value.str (PySem.Str.ofString "Source") 1009), some (PySem.Value.builtin "object.__new__"),
    some (PySem.Value.bool true)]) ::
  (nat_lit 601, PySem.Obj.mk (PySem.Value.type "code") none
  (PySem.Data.fields
    #[PySem.Value.str (PySem.Str.ofString "__init__") 1074, PySem.Value.str (PySem.Str.ofString "Index.__init__") 1075,
      PySem.Value.str (PySem.Str.ofString "/claim/cut.py") 1076, PySem.Value.int 351 0, PySem.Value.int 8 0,
      PySem.Value.int 0 0, PySem.Value.int 0 0, PySem.Value.int 3 0, PySem.Value.ref 596, PySem.Value.bool true,
      PySem.Value.int 181 0, PySem.Value.ref 597, PySem.Value.none, PySem.Value.ref 598, PySem.Value.ref 599,
      PySem.Value.ref 600, PySem.Value.int 1085 0, PySem.Value.int 351 0,
      PySem.Value.str (PySem.Str.ofString "/claim/cut.py") 1086])
  #[]) ::
  (nat_lit 602, PySem.Obj.mk (PySem.Value.type "function") (none) (PySem.Data.func fd602.1) (#[])) ::
  (nat_lit 616, PySem.Obj.mk (PySem.Value.type "dict") none
  (PySem.Data.dict
    #[PySem.DictEntry.mk (PySem.PyData.keyHash P (PySem.Str.ofString "__module__"))
        (PySem.Value.str (PySem.Str.ofString "__module__") 1069)
        (PySem.Value.str (PySem.Str.ofString "pagebase.tables") 1060),
      PySem.DictEntry.mk (PySem.PyData.keyHash P (PySem.Str.ofString "__firstlineno__"))
        (PySem.Value.str (PySem.Str.ofString "__firstlineno__") 1073) (PySem.Value.int 349 1072),
      PySem.DictEntry.mk (PySem.PyData.keyHash P (PySem.Str.ofString "__init__"))
        (PySem.Value.str (PySem.Str.ofString "__init__") 1087) (PySem.Value.ref 602),
      PySem.DictEntry.mk (PySem.PyData.keyHash P (PySem.Str.ofString "info"))
        (PySem.Value.str (PySem.Str.ofString "info") 1094) (PySem.Value.ref 609),
      PySem.DictEntry.mk (PySem.PyData.keyHash P (PySem.Str.ofString "places"))
        (PySem.Value.str (PySem.Str.ofString "places") 1100) (PySem.Value.ref 614),
      PySem.DictEntry.mk (PySem.PyData.keyHash P (PySem.Str.ofString "__static_attributes__"))
        (PySem.Value.str (PySem.Str.ofString "__static_attributes__") 1108) (PySem.Value.ref 615),
      PySem.DictEntry.mk (PySem.PyData.keyHash P (PySem.Str.ofString "__dict__"))
        (PySem.Value.str (PySem.Str.ofString "__dict__") 1110) (PySem.Value.ref 618),
      PySem.DictEntry.mk (PySem.PyData.keyHash P (PySem.Str.ofString "__weakref__"))
        (PySem.Value.str (PySem.Str.ofString "__weakref__") 1112) (PySem.Value.ref 619),
      PySem.DictEntry.mk (PySem.PyData.keyHash P (PySem.Str.ofString "__doc__"))
        (PySem.Value.str (PySem.Str.ofString "__doc__") 1113) PySem.Value.none]
    4)
  #[]) ::
  (nat_lit 617, PySem.Obj.mk (PySem.Value.type "type") none
  (PySem.Data.cls
    (PySem.ClassData.mk (PySem.Str.ofString "Index") [PySem.Value.type "object"]
      [PySem.Value.ref 617, PySem.Value.type "object"] 616 (PySem.Str.ofString "Index") true [] [] false none false))
  #[none, none, some (PySem.Value.str (PySem.Str.ofString "Index") 1062),
    some (PySem.Value.str (PySem.Str.ofString "Index") 1070), some (PySem.Value.builtin "object.__new__"),
    some (PySem.Value.bool true)]) ::
  (nat_lit 634, PySem.Obj.mk (PySem.Value.type "code") none
  (PySem.Data.fields
    #[PySem.Value.str (PySem.Str.ofString "__init__") 1128, PySem.Value.str (PySem.Str.ofString "Table.__init__") 1129,
      PySem.Value.str (PySem.Str.ofString "/claim/cut.py") 1130, PySem.Value.int 367 0, PySem.Value.int 5 0,
      PySem.Value.int 0 0, PySem.Value.int 0 0, PySem.Value.int 3 0, PySem.Value.ref 629, PySem.Value.bool true,
      PySem.Value.int 181 0, PySem.Value.ref 630, PySem.Value.none, PySem.Value.ref 631, PySem.Value.ref 632,
      PySem.Value.ref 633, PySem.Value.int 1136 0, PySem.Value.int 367 0,
      PySem.Value.str (PySem.Str.ofString "/claim/cut.py") 1137])
  #[]) ::
  (nat_lit 635, PySem.Obj.mk (PySem.Value.type "function") (none) (PySem.Data.func fd635.1) (#[])) ::
  (nat_lit 658, PySem.Obj.mk (PySem.Value.type "dict") none
  (PySem.Data.dict
    #[PySem.DictEntry.mk (PySem.PyData.keyHash P (PySem.Str.ofString "__module__"))
        (PySem.Value.str (PySem.Str.ofString "__module__") 1123)
        (PySem.Value.str (PySem.Str.ofString "pagebase.tables") 1060),
      PySem.DictEntry.mk (PySem.PyData.keyHash P (PySem.Str.ofString "__firstlineno__"))
        (PySem.Value.str (PySem.Str.ofString "__firstlineno__") 1127) (PySem.Value.int 365 1126),
      PySem.DictEntry.mk (PySem.PyData.keyHash P (PySem.Str.ofString "__init__"))
        (PySem.Value.str (PySem.Str.ofString "__init__") 1138) (PySem.Value.ref 635),
      PySem.DictEntry.mk (PySem.PyData.keyHash P (PySem.Str.ofString "place_of"))
        (PySem.Value.str (PySem.Str.ofString "place_of") 1146) (PySem.Value.ref 642),
      PySem.DictEntry.mk (PySem.PyData.keyHash P (PySem.Str.ofString "affinities"))
        (PySem.Value.str (PySem.Str.ofString "affinities") 1153) (PySem.Value.ref 649),
      PySem.DictEntry.mk (PySem.PyData.keyHash P (PySem.Str.ofString "column_names"))
        (PySem.Value.str (PySem.Str.ofString "column_names") 1160) (PySem.Value.ref 656),
      PySem.DictEntry.mk (PySem.PyData.keyHash P (PySem.Str.ofString "__static_attributes__"))
        (PySem.Value.str (PySem.Str.ofString "__static_attributes__") 1169) (PySem.Value.ref 657),
      PySem.DictEntry.mk (PySem.PyData.keyHash P (PySem.Str.ofString "__dict__"))
        (PySem.Value.str (PySem.Str.ofString "__dict__") 1171) (PySem.Value.ref 660),
      PySem.DictEntry.mk (PySem.PyData.keyHash P (PySem.Str.ofString "__weakref__"))
        (PySem.Value.str (PySem.Str.ofString "__weakref__") 1173) (PySem.Value.ref 661),
      PySem.DictEntry.mk (PySem.PyData.keyHash P (PySem.Str.ofString "__doc__"))
        (PySem.Value.str (PySem.Str.ofString "__doc__") 1174) PySem.Value.none]
    4)
  #[]) ::
  (nat_lit 659, PySem.Obj.mk (PySem.Value.type "type") none
  (PySem.Data.cls
    (PySem.ClassData.mk (PySem.Str.ofString "Table") [PySem.Value.type "object"]
      [PySem.Value.ref 659, PySem.Value.type "object"] 658 (PySem.Str.ofString "Table") true [] [] false none false))
  #[none, none, some (PySem.Value.str (PySem.Str.ofString "Table") 1116),
    some (PySem.Value.str (PySem.Str.ofString "Table") 1124), some (PySem.Value.builtin "object.__new__"),
    some (PySem.Value.bool true)]) ::
  (nat_lit 669, PySem.Obj.mk (PySem.Value.type "code") none
  (PySem.Data.fields
    #[PySem.Value.str (PySem.Str.ofString "_law_pool") 1179, PySem.Value.str (PySem.Str.ofString "_law_pool") 1180,
      PySem.Value.str (PySem.Str.ofString "/claim/cut.py") 1181, PySem.Value.int 386 0, PySem.Value.int 2 0,
      PySem.Value.int 0 0, PySem.Value.int 0 0, PySem.Value.int 3 0, PySem.Value.ref 664, PySem.Value.bool true,
      PySem.Value.int 181 0, PySem.Value.ref 665, PySem.Value.none, PySem.Value.ref 666, PySem.Value.ref 667,
      PySem.Value.ref 668, PySem.Value.int 1187 0, PySem.Value.int 386 0,
      PySem.Value.str (PySem.Str.ofString "/claim/cut.py") 1188])
  #[]) ::
  (nat_lit 670, PySem.Obj.mk (PySem.Value.type "function") (none) (PySem.Data.func fd670.1) (#[])) ::
  (nat_lit 676, PySem.Obj.mk (PySem.Value.type "code") none
  (PySem.Data.fields
    #[PySem.Value.str (PySem.Str.ofString "_law_take") 1190, PySem.Value.str (PySem.Str.ofString "_law_take") 1191,
      PySem.Value.str (PySem.Str.ofString "/claim/cut.py") 1192, PySem.Value.int 393 0, PySem.Value.int 2 0,
      PySem.Value.int 0 0, PySem.Value.int 0 0, PySem.Value.int 3 0, PySem.Value.ref 671, PySem.Value.bool true,
      PySem.Value.int 181 0, PySem.Value.ref 672, PySem.Value.none, PySem.Value.ref 673, PySem.Value.ref 674,
      PySem.Value.ref 675, PySem.Value.int 1196 0, PySem.Value.int 393 0,
      PySem.Value.str (PySem.Str.ofString "/claim/cut.py") 1197])
  #[]) ::
  (nat_lit 677, PySem.Obj.mk (PySem.Value.type "function") (none) (PySem.Data.func fd677.1) (#[])) ::
  (nat_lit 683, PySem.Obj.mk (PySem.Value.type "code") none
  (PySem.Data.fields
    #[PySem.Value.str (PySem.Str.ofString "_law_one") 1199, PySem.Value.str (PySem.Str.ofString "_law_one") 1200,
      PySem.Value.str (PySem.Str.ofString "/claim/cut.py") 1201, PySem.Value.int 400 0, PySem.Value.int 2 0,
      PySem.Value.int 0 0, PySem.Value.int 0 0, PySem.Value.int 3 0, PySem.Value.ref 678, PySem.Value.bool true,
      PySem.Value.int 181 0, PySem.Value.ref 679, PySem.Value.none, PySem.Value.ref 680, PySem.Value.ref 681,
      PySem.Value.ref 682, PySem.Value.int 1204 0, PySem.Value.int 400 0,
      PySem.Value.str (PySem.Str.ofString "/claim/cut.py") 1205])
  #[]) ::
  (nat_lit 684, PySem.Obj.mk (PySem.Value.type "function") (none) (PySem.Data.func fd684.1) (#[])) ::
  (nat_lit 688, PySem.Obj.mk (PySem.Value.type "code") none
  (PySem.Data.fields
    #[PySem.Value.str (PySem.Str.ofString "_law_bound") 1207, PySem.Value.str (PySem.Str.ofString "_law_bound") 1208,
      PySem.Value.str (PySem.Str.ofString "/claim/cut.py") 1209, PySem.Value.int 402 0, PySem.Value.int 1 0,
      PySem.Value.int 0 0, PySem.Value.int 0 0, PySem.Value.int 3 0, PySem.Value.ref 685, PySem.Value.bool true,
      PySem.Value.int 181 0, PySem.Value.ref 686, PySem.Value.none, PySem.Value.none, PySem.Value.none,
      PySem.Value.ref 687, PySem.Value.int 1210 0, PySem.Value.int 402 0,
      PySem.Value.str (PySem.Str.ofString "/claim/cut.py") 1211])
  #[]) ::
  (nat_lit 689, PySem.Obj.mk (PySem.Value.type "function") (none) (PySem.Data.func fd689.1) (#[])) ::
  (nat_lit 695, PySem.Obj.mk (PySem.Value.type "code") none
  (PySem.Data.fields
    #[PySem.Value.str (PySem.Str.ofString "_law_due") 1213, PySem.Value.str (PySem.Str.ofString "_law_due") 1214,
      PySem.Value.str (PySem.Str.ofString "/claim/cut.py") 1215, PySem.Value.int 408 0, PySem.Value.int 4 0,
      PySem.Value.int 0 0, PySem.Value.int 0 0, PySem.Value.int 3 0, PySem.Value.ref 690, PySem.Value.bool true,
      PySem.Value.int 181 0, PySem.Value.ref 691, PySem.Value.none, PySem.Value.ref 692, PySem.Value.ref 693,
      PySem.Value.ref 694, PySem.Value.int 1226 0, PySem.Value.int 408 0,
      PySem.Value.str (PySem.Str.ofString "/claim/cut.py") 1227])
  #[]) ::
  (nat_lit 696, PySem.Obj.mk (PySem.Value.type "function") (none) (PySem.Data.func fd696.1) (#[])) ::
  (nat_lit 700, PySem.Obj.mk (PySem.Value.type "code") none
  (PySem.Data.fields
    #[PySem.Value.str (PySem.Str.ofString "law") 1229, PySem.Value.str (PySem.Str.ofString "law") 1230,
      PySem.Value.str (PySem.Str.ofString "/claim/cut.py") 1231, PySem.Value.int 419 0, PySem.Value.int 1 0,
      PySem.Value.int 0 0, PySem.Value.int 0 0, PySem.Value.int 3 0, PySem.Value.ref 697, PySem.Value.bool true,
      PySem.Value.int 181 0, PySem.Value.ref 698, PySem.Value.none, PySem.Value.none, PySem.Value.none,
      PySem.Value.ref 699, PySem.Value.int 1232 0, PySem.Value.int 419 0,
      PySem.Value.str (PySem.Str.ofString "/claim/cut.py") 1233])
  #[]) ::
  (nat_lit 701, PySem.Obj.mk (PySem.Value.type "function") (none) (PySem.Data.func fd701.1) (#[])) :: []
noncomputable abbrev asK : List Addr := 2 :: 3 :: 54 :: 55 :: 68 :: 69 :: 84 :: 85 :: 94 :: 95 :: 413 :: 414 :: 416 :: 417 :: 427 :: 428 :: 434 :: 435 :: 443 :: 449 :: 450 :: 456 :: 457 :: 473 :: 474 :: 484 :: 485 :: 491 :: 492 :: 498 :: 499 :: 505 :: 506 :: 512 :: 513 :: 517 :: 518 :: 524 :: 525 :: 531 :: 532 :: 538 :: 539 :: 545 :: 546 :: 552 :: 553 :: 566 :: 567 :: 583 :: 584 :: 601 :: 602 :: 616 :: 617 :: 634 :: 635 :: 658 :: 659 :: 669 :: 670 :: 676 :: 677 :: 683 :: 684 :: 688 :: 689 :: 695 :: 696 :: 700 :: 701 :: []
theorem asK_eq (P : Params) : asK = (KF P).map (·.1) := by kernel_rfl
noncomputable def look1 (w : World) (s : SharedT) : Bool := staticsOk (importedModules PW.main.body) (boot_heap w.params) s.abs.heap && namesBound PW s.abs.heap && gensDone s.abs && laidKept (boot_heap w.params) s.abs.heap
/-- the top is run once: what the run gives, and the three looks at its end -/
theorem once (w : World) (os : OsState) : (RUN w os).map (fun r => (r.1, look1 w r.2.1, PySem.W.Fast.tw4187177175401517315 VW LOOSE (PySem.W.Fast.tw5923862056798008813 PW.main.body) XT true r.2.1.abs, (kHook KF asK asK_eq).obs r.2.1.abs, r.2.2.1, r.2.2.2)) = some (.next, true, openGood VW LOOSE, (kHook KF asK asK_eq).val w, CE, PE) := by kernel_rfl
theorem once_at (w : World) (os : OsState) : RUN w os = some (.next, SE w os, CE, PE) ∧ look1 w (SE w os) = true ∧ PySem.W.Fast.tw4187177175401517315 VW LOOSE (PySem.W.Fast.tw5923862056798008813 PW.main.body) XT true (SE w os).abs = openGood VW LOOSE ∧ (kHook KF asK asK_eq).obs (SE w os).abs = (kHook KF asK asK_eq).val w := by
  obtain ⟨⟨f, s, c, p⟩, e, h⟩ := Option.map_eq_some_iff.mp (once w os)
  have hS : SE w os = s := by unfold SE; rw [e]; rfl
  simp only [Prod.mk.injEq] at h
  obtain ⟨h1, h2, h3, h4, h5, h6⟩ := h
  subst h1 h5 h6
  rw [hS]
  exact ⟨e, h2, h3, h4⟩
theorem run (w : World) (os : OsState) : RUN w os = some (.next, SE w os, CE, PE) := (once_at w os).1
theorem looks1 (w : World) (os : OsState) : ((staticsOk (importedModules PW.main.body) (boot_heap w.params) (SE w os).abs.heap && namesBound PW (SE w os).abs.heap && gensDone (SE w os).abs && laidKept (boot_heap w.params) (SE w os).abs.heap)) = true := (once_at w os).2.1
theorem looks2 (w : World) (os : OsState) : openSeen VW LOOSE (importedModules PW.main.body) XT true (SE w os).abs = openGood VW LOOSE := by
  rw [PySem.W.Fast.te4187177175401517315, PySem.W.Fast.te5923862056798008813]
  exact (once_at w os).2.2.1
theorem looks3 (w : World) (os : OsState) : (kHook KF asK asK_eq).obs (SE w os).abs = (kHook KF asK asK_eq).val w := (once_at w os).2.2.2
theorem left_of {p q : Program} {loose : List PySem.Str} {Xt : Shared → Bool} {α : Type} {Yf : Shared → α} {Ya : World → α} {N : Nat} {g0 : Bool} {H₀ : Params → Heap} {gs₀ : Array GenState} {d₀ : Drawn} {k₀ : Nat} {m₀ : Nat} {ann : Option Value} {M : Nat} {S₁ : World → OsState → Shared}
    (open_ : ∀ w : World, (fencedOpening treeTable p w N).map (fun s => (s.heap, s.gens, s.drawn, s.toks)) = some (H₀ w.params, gs₀, d₀, k₀))
    (size : ∀ w : World, ((H₀ w.params).isNs mainGlobals && gs₀.size == 0, (H₀ w.params).objs.size, (H₀ w.params).nsMap mainGlobals "__annotations__") = (true, m₀, ann))
    (run : ∀ (w : World) (os : OsState), topRun treeTable p w m₀ ann M ⟨H₀ w.params, gs₀, d₀, k₀, os⟩ (topStub p) = some (S₁ w os)) (le : M ≤ N)
    (l1 : ∀ (w : World) (os : OsState), (staticsOk (importedModules p.main.body) (H₀ w.params) (S₁ w os).heap && namesBound p (S₁ w os).heap && gensDone (S₁ w os) && laidKept (H₀ w.params) (S₁ w os).heap) = true)
    (l2 : ∀ (w : World) (os : OsState), openSeen q loose (importedModules p.main.body) Xt g0 (S₁ w os) = openGood q loose)
    (l3 : ∀ (w : World) (os : OsState), Yf (S₁ w os) = Ya w) : LeftO p q loose Xt Yf Ya N g0 := fun w => by
  obtain ⟨⟨h, gs, d, k, os⟩, e, e'⟩ := Option.map_eq_some_iff.mp (open_ w)
  obtain ⟨rfl, rfl, rfl, rfl⟩ : h = H₀ w.params ∧ gs = gs₀ ∧ d = d₀ ∧ k = k₀ := by simpa using e'
  obtain ⟨z1, z2, z3⟩ : _ ∧ _ ∧ _ := by simpa only [Prod.mk.injEq] using size w
  have r := topRun_mono (N - M) _ _ _ _ (run w os)
  rw [show M + (N - M) = N by omega] at r
  have t : topFrom treeTable p w N ⟨H₀ w.params, gs, d, k, os⟩ = some (S₁ w os) := by
    unfold topFrom
    dsimp only
    rw [z1, z2, z3, r]
    show (match staticsOk (importedModules p.main.body) (H₀ w.params) (S₁ w os).heap && namesBound p (S₁ w os).heap && gensDone (S₁ w os) && laidKept (H₀ w.params) (S₁ w os).heap with | true => _ | false => _) = _
    rw [l1]
  unfold openEnds
  rw [e]
  show (topFrom treeTable p w N _).map _ = _
  rw [t]
  exact congrArg some (Prod.ext (l2 w os) (l3 w os))
theorem open_ : ∀ w : World, (fencedOpening treeTable PW w 12996).map (fun s => (s.heap, s.gens, s.drawn, s.toks)) = some (boot_heap w.params, Array.mk [], boot_drawn, boot_toks) :=
  boot_open (by kernel_rfl) (by rfl) (fun _ => by rfl)
theorem run_of {p : Program} {w : World} {n₀ : Nat} {ann : Option Value} {a : Nat} {env : Env} {b : List Stmt} {c : Code} {q pe : Pos} {s0 sa : Shared} {sb se : SharedT} {n : Nat} {st : Thread}
    (pre : topGo treeTable p w n₀ ann a s0 st = some (sa, ⟨denote treeTable (.body b env), c, q, [topFrame q]⟩))
    (hc : c = .body b env)
    (block : segRun treeTable p w n₀ ann 1 1 sa (blockOf b env c q [topFrame q]) = some (.next, sa, c, q))
    (hs : sa = sb.abs) (run : segRunT treeTable p w n₀ ann 1 n sb (piecesOf b env c q [topFrame q]) = some (.next, se, c, pe))
    (fin : topRun treeTable p w n₀ ann 2 se.abs ⟨doneF .next, c, pe, [topFrame q]⟩ = some se.abs) : topRun treeTable p w n₀ ann (a + (1 + (n + 2))) s0 st = some se.abs := by
  subst hc
  refine go_top pre (piece_block block ?_)
  rw [hs]
  have h := piece_app (rest := []) (segRun_of run) (piece_nil fin)
  rw [List.append_nil] at h
  exact h
theorem topGoes (w : World) (os : OsState) : topRun treeTable PW w 11 ANN (12 + (1 + (7000 + 2))) (S0 w os) (topStub PW) = some (SE w os).abs :=
  run_of (pre w os) rfl (block w os) (blockS w os) ((RUN_eq w os).trans (run w os)) (fin w (SE w os).abs CE PE)
noncomputable def S1 (w : World) (os : OsState) : Shared := (SE w os).abs
theorem left : LeftO PW VW LOOSE XT (kHook KF asK asK_eq).obs (kHook KF asK asK_eq).val 12996 true :=
  left_of (S₁ := S1) open_ size topGoes (Nat.le_of_ble_eq_true rfl) looks1 looks2 looks3
abbrev RW0 : OpenLaw := PySem.Challenge.rw_nt0116_01
theorem said : RW0.wellSaid = true := by
  rw [PySem.W.Fast.te9446332074065402090]; kernel_rfl
noncomputable def mkRec (st : Stmt) : DefRec := match st with
  | .FunctionDef n a b _ _ _ sc _ _ pos => ⟨n, a, b, sc, pos⟩
  | _ => ⟨default, default, default, default, default⟩
noncomputable abbrev lawRec : DefRec := mkRec (nth PW.main.body 64)
theorem hdefL : defOf VW (RW0.row.toRowW).name = some (lawRec, []) := by kernel_rfl
theorem hd {d : DefRec} (e : lawRec = d) (walk : WalkO VW LOOSE (XL VW LV) (kHook KF asK asK_eq).says RW0.row.toRowW d [] fun f vs => PySem.call f vs) : RW0.Holds := by
  subst e
  refine holds_law said fun sd => ?_
  exact holds_open (q := VW) (loose := LOOSE) (Xt := XT) (XP := XL VW LV) (Yf := (kHook KF asK asK_eq).obs) (Ya := (kHook KF asK asK_eq).val) (YP := (kHook KF asK asK_eq).says) (N := 12996) left (kHook KF asK asK_eq).of (kHook KF asK asK_eq).keeps
    (fun s e => xl_of s (Bool.and_eq_true_iff.mp e).1) XL.keeps hdefL (by kernel_rfl) (by kernel_rfl) (fun s e => recFacts_of (Bool.and_eq_true_iff.mp e).2) (by kernel_rfl) sd (by decide +kernel) ⟨rfl, rfl, rfl, rfl, rfl, by decide +kernel⟩ (by w_witness2) walk
set_option maxRecDepth 512
inductive Sel (q : Addr × Obj) : List (Addr × Obj) → List (Addr × Obj) → Prop
  | head {r} : Sel q (q :: r) r
  | tail {x r r'} : Sel q r r' → Sel q (x :: r) (x :: r')
theorem Sel.sub {q : Addr × Obj} : ∀ {l r : List (Addr × Obj)}, Sel q l r → ∀ p ∈ q :: r, p ∈ l
  | _, _, .head, _, h => h
  | _, _, .tail h, p, hp => by
    rcases List.mem_cons.mp hp with e | hp
    · exact .tail _ (h.sub p (e ▸ List.mem_cons_self))
    · rcases List.mem_cons.mp hp with e | hp
      · exact e ▸ List.mem_cons_self
      · exact .tail _ (h.sub p (.tail _ hp))
theorem news_sub {h₀ h : Heap} {L : Addr} {l l' : List (Addr × Obj)} (N : News h₀ L h l) (hs : ∀ p ∈ l', p ∈ l) : News h₀ L h l' := fun p hp => N p (hs p hp)
theorem fm_pos {a b : Int} (h : 0 < b) : 0 ≤ a.fmod b ∧ a.fmod b < b := ⟨Int.fmod_nonneg_of_pos a h, Int.fmod_lt_of_pos a h⟩
theorem fd_pos {a b : Int} (h : 0 < b) (ha : 0 ≤ a) : 0 ≤ a.fdiv b := Int.fdiv_nonneg ha (Int.le_of_lt h)
theorem sq_ok {x z b : Int} : IntMulOk ([x, z.fmod 2147483647].getD (Int.toNat 1) 0) b := by
  show IntMulOk (z.fmod 2147483647) b
  have h := fm_pos (a := z) (b := 2147483647) (by decide)
  exact IntMulOk.of_left (intBits_le_64 (by omega) (by omega))
theorem compEnd_sel {h₀ : Heap} {L I C D : Addr} {m : Str → Option Value} {s₁ : Shared} {oI oC oD : Obj} {S : List (Addr × Obj) → Prop} {rest : Value → List (Addr × Obj) → Prop} {y : Value} {h' : Heap} {tk : Nat} {all l1 l2 news' : List (Addr × Obj)}
    (F : Fr h₀ L h' m) (N : News h₀ L h' all) (S1 : Sel (I, oI) all l1) (S2 : Sel (C, oC) l1 l2) (S3 : Sel (D, oD) l2 news') (off : LCg.Off3 I C D news') (hS : S news') (r : rest y news') :
    LCg.CompEnd h₀ L m s₁ I oI C oC D oD S rest y { s₁ with heap := h', toks := tk } :=
  LCg.CompEnd.intro F N news' (fun p hp => by
    rcases List.mem_cons.mp hp with e | hp
    · exact S1.sub p (e ▸ List.mem_cons_self)
    refine S1.sub p (.tail _ ?_)
    rcases List.mem_cons.mp hp with e | hp
    · exact S2.sub p (e ▸ List.mem_cons_self)
    exact S2.sub p (.tail _ (S3.sub p hp))) off hS r
theorem allLt_ne {d : Addr} {r : List (Addr × Obj)} (h : AllLt d r) : ∀ p ∈ r, p.1 ≠ d := fun p hp => Nat.ne_of_lt (ktn_ltOf h p hp)
theorem allLt_trans {d d' : Addr} : ∀ {r : List (Addr × Obj)}, AllLt d r → d < d' → AllLt d' r
  | [], _, _ => trivial
  | _ :: _, h, hd => ⟨Nat.lt_trans h.1 hd, allLt_trans h.2 hd⟩
section
variable {prog : Program} {w : World} {A : Around} {E : Value → Shared → Prop} {s : Shared} {h₀ : Heap} {L l : Addr} {m : Str → Option Value} {news : List (Addr × Obj)} {vs : List Value} {n : Nat} {Q : Value → Shared → Prop}
theorem len_led (N : News h₀ L s.heap news) (hm : (l, listOf vs.toArray n) ∈ news) (hf : vs.length < 1000000) (h : Q (.int (vs.length : Int) (s.toks + 1)) { s with toks := s.toks + 1 + 1 }) :
    wpAny (model prog w) A (call (.builtin "len") [.ref l]) Q E s := by
  have hl : s.heap.IsList l vs.toArray := PySem.IsL.isList (n := n) (N _ hm).1
  have e : vs.toArray.size = vs.length := List.size_toArray ..
  exact call_len_list hl (by rw [e]; omega) (by rw [e]; exact h)
theorem item_led {value slice : PySem.Expr} {d : Int} {t : Tok} (N : News h₀ L s.heap news) (hm : (l, listOf vs.toArray n) ∈ news) (h0 : 0 ≤ d) (h1 : d < vs.length) (hf : vs.length < 1000000) (h : ∀ v, v ∈ vs → vs[d.toNat]? = some v → Q v s)
    (hs : subscripted slice false (.ref l) (.int d t) = operate [.ref l, .int d t] (getItem (.ref l) (.int d t)) := by with_unfolding_all rfl) :
    wpAny (model prog w) A (subscriptTail value slice (.ref l) (.int d t)) Q E s := by
  have hl : s.heap.IsList l vs.toArray := PySem.IsL.isList (n := n) (N _ hm).1
  have hd : d.toNat < vs.length := by omega
  have hx : vs[d.toNat]? = some vs[d.toNat] := List.getElem?_eq_getElem hd
  exact tail_any hl.typeIs slot_list_getitem.lookup (wpAny_getItem_list hl h0 (by omega) (by simpa using hx) (h _ (List.getElem_mem hd) hx)) hs
end
section
variable {prog : Program} {w : World} {A : Around} {h₀ : Heap} {L : Addr} {m : Str → Option Value} {env : Env} {elt : Expr} {x : Str} {scope : Scope} {cl : List (Str × Addr)} {s : Shared} {S : List (Addr × Obj) → Prop} {P : Nat → Value → Prop} {Fin : List Value → List (Addr × Obj) → Prop} {news : List (Addr × Obj)}
theorem comp_inv {n : Nat} (J : Nat → List Value → List (Addr × Obj) → Prop) (start : J 0 [] news)
    (turn : ∀ i ys nw v I oI C oC D m₂ h tk (E' : Value → Shared → Prop), i < n → J i ys nw → P i v → LCg.NsObj oC m₂ → m₂ x = some v → Fr h₀ L h m → News h₀ L h ((I, oI) :: (C, oC) :: (D, LCg.lst ys) :: nw) → LCg.Off3 I C D nw → ((@Ne Nat I C) ∧ (@Ne Nat I D) ∧ (@Ne Nat C D)) →
      wpAny (model prog w) A (eval elt (compEnvC scope cl C env)) (LCg.CompEnd h₀ L m { s with heap := h, toks := tk } I oI C oC D (LCg.lst ys) S (fun y nw' => J (i + 1) (ys ++ [y]) nw')) E' { s with heap := h, toks := tk })
    (fin : ∀ ys nw, J n ys nw → Fin ys nw) : LCg.CompRest prog w A h₀ L m env elt x scope cl s S P Fin n 0 [] news := by
  have key : ∀ (j i : Nat) (ys : List Value) (nw : List (Addr × Obj)), i + j = n → J i ys nw → LCg.CompRest prog w A h₀ L m env elt x scope cl s S P Fin j i ys nw := by
    intro j
    induction j with
    | zero =>
      intro i ys nw hi hJ
      have e : i = n := by omega
      subst e
      exact LCg.CompRest.zero (fin ys nw hJ)
    | succ j ih =>
      intro i ys nw hi hJ
      refine LCg.CompRest.succ ?_
      intro v I oI C oC D m₂ h tk E' hv hC hx F N off ne
      refine wpAny_mono (turn i ys nw v I oI C oC D m₂ h tk E' (by omega) hJ hv hC hx F N off ne) (fun y s₂ hq => ?_) fun _ _ e => e
      obtain ⟨h', tk', nw', e, F', N', off', hS, hJ'⟩ := hq
      exact ⟨h', tk', nw', e, F', N', off', hS, ih (i + 1) _ nw' (by omega) hJ'⟩
  exact key n 0 [] news (by omega) start
theorem comp_len {n : Nat}
    (turn : ∀ ys v I oI C oC D m₂ h tk (E' : Value → Shared → Prop), LCg.NsObj oC m₂ → m₂ x = some v → Fr h₀ L h m → News h₀ L h ((I, oI) :: (C, oC) :: (D, LCg.lst ys) :: news) → LCg.Off3 I C D news → ((@Ne Nat I C) ∧ (@Ne Nat I D) ∧ (@Ne Nat C D)) →
      wpAny (model prog w) A (eval elt (compEnvC scope cl C env)) (LCg.CompEnd h₀ L m { s with heap := h, toks := tk } I oI C oC D (LCg.lst ys) S (fun _ nw' => nw' = news)) E' { s with heap := h, toks := tk })
    (fin : ∀ ys, ys.length = n → Fin ys news) : LCg.CompRest prog w A h₀ L m env elt x scope cl s S P Fin n 0 [] news := by
  refine comp_inv (fun i ys nw => nw = news ∧ ys.length = i) ⟨rfl, rfl⟩ ?_ ?_
  · rintro i ys nw v I oI C oC D m₂ h tk E' _ ⟨rfl, hl⟩ hP hC hx F N off ne
    refine wpAny_mono (turn ys v I oI C oC D m₂ h tk E' hC hx F N off ne) (fun y s₂ hq => ?_) fun _ _ e => e
    obtain ⟨h', tk', nw', e, F', N', off', hS, hn⟩ := hq
    exact ⟨h', tk', nw', e, F', N', off', hS, hn, by simp [hl]⟩
  · rintro ys nw ⟨rfl, hl⟩
    exact fin ys hl
end
section
variable {prog : Program} {w : World} {A : Around} {E : Value → Shared → Prop} {s : Shared} {env : Env} {h₀ : Heap} {x : Str} {body : List Stmt} {Q : Flow → Shared → Prop}
theorem list_rest {I : Addr} {lp : Addr × Obj} (J : List Value → (Str → Option Value) → List (Addr × Obj) → Prop)
    (turn : ∀ v r m nw (it : Obj) h tk, J (v :: r) m nw → it.cls = .type "list_iterator" → Fr h₀ env.locals h (fun y => if y = x then some v else m y) → News h₀ env.locals h ((I, it) :: nw) →
      wpAny (model prog w) A (execs body env) (UnrPost h₀ env.locals { s with heap := h, toks := tk } I it (fun m' n' => lp ∈ n' ∧ J r m' n') Q) E { s with heap := h, toks := tk })
    (done : ∀ m nw h tk, J [] m nw → Fr h₀ env.locals h m → News h₀ env.locals h nw → Q .next { s with heap := h, toks := tk }) :
    ∀ (vs : List Value) (m : Str → Option Value) (nw : List (Addr × Obj)), J vs m nw → ListRest prog w A E h₀ env x body Q s I lp vs m nw
  | [], m, nw, hJ => ListRest.zero fun h tk F N => done m nw h tk hJ F N
  | v :: r, m, nw, hJ => ListRest.succ fun it h tk hit F N => by
    refine wpAny_mono (turn v r m nw it h tk hJ hit F N) (fun f s₂ p => ?_) fun _ _ e => e
    have fin : UnrEnd h₀ env.locals { s with heap := h, toks := tk } I it (fun m' n' => lp ∈ n' ∧ J r m' n') s₂ → UnrEnd h₀ env.locals { s with heap := h, toks := tk } I it (fun m' n' => lp ∈ n' ∧ ListRest prog w A E h₀ env x body Q s I lp r m' n') s₂ := by
      rintro ⟨h', tk, m', news', e, F', N', ho, hmm, hJ'⟩
      exact ⟨h', tk, m', news', e, F', N', ho, hmm, list_rest J turn done r m' news' hJ'⟩
    cases f with
    | ret v => exact p
    | brk => exact p
    | next => exact fin p
    | cont => exact fin p
theorem list_keep {ax : Addr} {vs : List Value} {n : Nat} {m₀ : Str → Option Value} {news : List (Addr × Obj)} (stored : List Str)
    (hh : A.handled = none) (F : Fr h₀ env.locals s.heap m₀) (N : News h₀ env.locals s.heap news) (hm : (ax, listOf vs.toArray n) ∈ news)
    (turn : ∀ v (u : Str → Option Value) (it : Obj) I h tk, v ∈ vs → it.cls = .type "list_iterator" → (∀ p ∈ news, p.1 < I) → Fr h₀ env.locals h (fun z => if z = x then some v else if stored.contains z then u z else m₀ z) → News h₀ env.locals h ((I, it) :: news) →
      wpAny (model prog w) A (execs body env) (UnrPost h₀ env.locals { s with heap := h, toks := tk } I it (fun m' n' => n' = news ∧ ∀ z, z ≠ x → stored.contains z = false → m' z = m₀ z) Q) E { s with heap := h, toks := tk })
    (done : ∀ (u : Str → Option Value) h tk, Fr h₀ env.locals h (fun z => if z = x then u z else if stored.contains z then u z else m₀ z) → News h₀ env.locals h news → Q .next { s with heap := h, toks := tk }) :
    wpAny (model prog w) A (pyIter (.ref ax)) (fun it s₂ => LoopAtV prog w A h₀ env x body Q E it s₂) E s := by
  refine iter_listUnr (lo := listOf vs.toArray n) (vs := vs) hh F N hm rfl rfl fun I hI => ?_
  refine list_rest (fun r m nw => nw = news ∧ (∀ v ∈ r, v ∈ vs) ∧ ∀ z, z ≠ x → stored.contains z = false → m z = m₀ z) ?_ ?_ vs m₀ news ⟨rfl, fun _ h => h, fun _ _ _ => rfl⟩
  · rintro v r m nw it h tk ⟨rfl, hr, hmz⟩ hit F' N'
    have e : (fun y => if y = x then some v else m y) = fun z => if z = x then some v else if stored.contains z then m z else m₀ z := by
      funext z
      by_cases h1 : z = x
      · simp [h1]
      · simp only [if_neg h1]
        cases h3 : stored.contains z with
        | true => simp
        | false => simp only [Bool.false_eq_true, if_false]; exact hmz z h1 h3
    rw [e] at F'
    refine wpAny_mono (turn v m it I h tk (hr v List.mem_cons_self) hit hI F' N') (fun f s₂ p => ?_) fun _ _ e => e
    have fin : UnrEnd h₀ env.locals { s with heap := h, toks := tk } I it (fun m' n' => n' = nw ∧ ∀ z, z ≠ x → stored.contains z = false → m' z = m₀ z) s₂ → UnrEnd h₀ env.locals { s with heap := h, toks := tk } I it (fun m' n' => (ax, listOf vs.toArray n) ∈ n' ∧ n' = nw ∧ (∀ v ∈ r, v ∈ vs) ∧ ∀ z, z ≠ x → stored.contains z = false → m' z = m₀ z) s₂ := by
      rintro ⟨h2, tk2, m2, news2, e2, F2, N2, ho2, hn2, hmm⟩
      subst hn2
      exact ⟨h2, tk2, m2, _, e2, F2, N2, ho2, hm, rfl, (fun v hv => hr v (List.mem_cons_of_mem _ hv)), hmm⟩
    cases f with
    | ret v => exact p
    | brk => exact p
    | next => exact fin p
    | cont => exact fin p
  · rintro m nw h tk ⟨rfl, _, hmz⟩ F' N'
    refine done m h tk ?_ N'
    have e : (fun z => if z = x then m z else if stored.contains z then m z else m₀ z) = m := by
      funext z
      by_cases h1 : z = x
      · simp [h1]
      · simp only [if_neg h1]
        cases h3 : stored.contains z with
        | true => simp
        | false => simp only [Bool.false_eq_true, if_false]; exact (hmz z h1 h3).symm
    rw [e]; exact F'
theorem list_state {ax : Addr} {vs : List Value} {n : Nat} {m₀ : Str → Option Value} {news : List (Addr × Obj)} (stored : List Str) (J : Nat → List (Addr × Obj) → Prop)
    (hh : A.handled = none) (F : Fr h₀ env.locals s.heap m₀) (N : News h₀ env.locals s.heap news) (start : J 0 news) (keep : ∀ i nw, J i nw → (ax, listOf vs.toArray n) ∈ nw)
    (turn : ∀ i v (u : Str → Option Value) nw (it : Obj) I h tk, vs[i]? = some v → J i nw → it.cls = .type "list_iterator" → (∀ p ∈ nw, p.1 ≠ I) → (∀ p ∈ news, p.1 < I) → Fr h₀ env.locals h (fun z => if z = x then some v else if stored.contains z then u z else m₀ z) → News h₀ env.locals h ((I, it) :: nw) →
      wpAny (model prog w) A (execs body env) (UnrPost h₀ env.locals { s with heap := h, toks := tk } I it (fun m' n' => J (i + 1) n' ∧ ∀ z, z ≠ x → stored.contains z = false → m' z = m₀ z) Q) E { s with heap := h, toks := tk })
    (done : ∀ (u : Str → Option Value) nw h tk, J vs.length nw → Fr h₀ env.locals h (fun z => if z = x then u z else if stored.contains z then u z else m₀ z) → News h₀ env.locals h nw → Q .next { s with heap := h, toks := tk }) :
    wpAny (model prog w) A (pyIter (.ref ax)) (fun it s₂ => LoopAtV prog w A h₀ env x body Q E it s₂) E s := by
  refine iter_listUnr (lo := listOf vs.toArray n) (vs := vs) hh F N (keep 0 _ start) rfl rfl fun I hI => ?_
  refine list_rest (fun r m nw => (∃ i, J i nw ∧ r = vs.drop i ∧ i ≤ vs.length) ∧ (∀ p ∈ nw, p.1 ≠ I) ∧ ∀ z, z ≠ x → stored.contains z = false → m z = m₀ z) ?_ ?_ vs m₀ news ⟨⟨0, start, rfl, Nat.zero_le _⟩, fun p hp => Nat.ne_of_lt (hI p hp), fun _ _ _ => rfl⟩
  · rintro v r m nw it h tk ⟨⟨i, hJ, hr, hi⟩, hoff, hmz⟩ hit F' N'
    have hlt : i < vs.length := by
      rcases Nat.lt_or_ge i vs.length with h1 | h1
      · exact h1
      · rw [List.drop_eq_nil_of_le h1] at hr; cases hr
    have hdrop := List.drop_eq_getElem_cons hlt
    rw [hdrop] at hr
    have hv : vs[i]? = some v := by rw [List.getElem?_eq_getElem hlt, (List.cons.inj hr).1]
    have hr2 : r = vs.drop (i + 1) := (List.cons.inj hr).2
    have e : (fun y => if y = x then some v else m y) = fun z => if z = x then some v else if stored.contains z then m z else m₀ z := by
      funext z
      by_cases h1 : z = x
      · simp [h1]
      · simp only [if_neg h1]
        cases h3 : stored.contains z with
        | true => simp
        | false => simp only [Bool.false_eq_true, if_false]; exact hmz z h1 h3
    rw [e] at F'
    refine wpAny_mono (turn i v m nw it I h tk hv hJ hit hoff hI F' N') (fun f s₂ p => ?_) fun _ _ e => e
    have fin : UnrEnd h₀ env.locals { s with heap := h, toks := tk } I it (fun m' n' => J (i + 1) n' ∧ ∀ z, z ≠ x → stored.contains z = false → m' z = m₀ z) s₂ → UnrEnd h₀ env.locals { s with heap := h, toks := tk } I it (fun m' n' => (ax, listOf vs.toArray n) ∈ n' ∧ (∃ i, J i n' ∧ r = vs.drop i ∧ i ≤ vs.length) ∧ (∀ p ∈ n', p.1 ≠ I) ∧ ∀ z, z ≠ x → stored.contains z = false → m' z = m₀ z) s₂ := by
      rintro ⟨h2, tk2, m2, news2, e2, F2, N2, ho2, hJ2, hmm⟩
      exact ⟨h2, tk2, m2, news2, e2, F2, N2, ho2, keep _ _ hJ2, ⟨i + 1, hJ2, hr2, hlt⟩, ho2, hmm⟩
    cases f with
    | ret v => exact p
    | brk => exact p
    | next => exact fin p
    | cont => exact fin p
  · rintro m nw h tk ⟨⟨i, hJ, hr, hi⟩, _, hmz⟩ F' N'
    have hi2 : i = vs.length := by
      rcases Nat.lt_or_ge i vs.length with h1 | h1
      · rw [List.drop_eq_getElem_cons h1] at hr; cases hr
      · omega
    subst hi2
    refine done m nw h tk hJ ?_ N'
    have e : (fun z => if z = x then m z else if stored.contains z then m z else m₀ z) = m := by
      funext z
      by_cases h1 : z = x
      · simp [h1]
      · simp only [if_neg h1]
        cases h3 : stored.contains z with
        | true => simp
        | false => simp only [Bool.false_eq_true, if_false]; exact (hmz z h1 h3).symm
    rw [e]; exact F'
end
section
variable {prog : Program} {w : World} {A : Around} {E : Value → Shared → Prop} {s : Shared} {h₀ : Heap} {L D : Addr} {m : Str → Option Value} {news news' : List (Addr × Obj)} {vs : List Value} {n : Nat}
theorem append_led {x : Value} {Q : Value → Shared → Prop} (F : Fr h₀ L s.heap m) (N : News h₀ L s.heap news) (U : Upd D (listOf vs.toArray n) (listOf (vs ++ [x]).toArray (n + 1)) news news') (hf : vs.length < 1000000)
    (h : ∀ h', Fr h₀ L h' m → News h₀ L h' news' → Q .none { s with heap := h' }) : wpAny (model prog w) A (call (.builtin "list.append") [.ref D, x]) Q E s :=
  append_K (its := vs.toArray) (n := n) F N (by rw [List.push_toArray]; exact U) h (by rw [sizeLine_eq, List.size_toArray]; omega)
end
theorem recall_NtTake (w : World) : (PySem.Challenge.rw_nt0116_01 = PySem.Challenge.rw_nt0116_01 ∧ KF w.params = KF w.params) := by
  k_fill
  exact ⟨rfl, rfl⟩
local macro_rules | `(tactic| ktr_enter) => `(tactic| (refine' code_def ?k1 ?k2 ?k3 ?k4 ?k5 ?kA ?kF ?kK ?k6 ?k7 ?k8 ?k9 ?kB ?_ ?c2 ?c3 ?c4 ?c5; (case kA => exact rfl); (case kF => exact rfl); (case kK => first | assumption | exact rfl); (case k1 => k_asm); (case k2 => k_asm); (case k3 => k_asm); (case k4 => k_asm); (case k5 => k_asm); (case k6 => k_is); (case k7 => k_is); (case k8 => ktr_room); (case k9 => first | exact BindsTo.of_eq rfl | exact binds_K (by k_in) rfl (by k_is) rfl rfl rfl); (case c5 => decide); (case kB => exact locs rfl); (case c2 => exact rfl); (case c3 => exact rfl); (case c4 => exact rfl); k_whole; intro g' L' h' FG' F' N' B' X' T'; (try dsimp only); (try k_fold)))
local macro_rules | `(tactic| k_room) => `(tactic| ktr_room)
local macro_rules | `(tactic| k_mem) => `(tactic| first | exact List.Mem.head _ | ktr_member | (refine' List.mem_cons_of_mem _ ?_; k_mem))
local macro_rules | `(tactic| k_all) => `(tactic| first | with_reducible assumption | exact allLt_ne (by assumption) | exact allLt_ne (allLt_of (by assumption)) | exact allLt_ne (And.right (by assumption)) | exact allLt_ne (And.right (And.right (by assumption))) | exact allLt_ne (And.right (And.right (And.right (by assumption)))) | exact allLt_ne (And.right (And.right (And.right (And.right (by assumption))))) | exact allLt_ne (And.right (And.right (And.right (And.right (And.right (by assumption)))))) | exact allLt_ne (And.right (And.right (And.right (And.right (And.right (And.right (by assumption))))))) | exact allLt_ne (And.right (And.right (And.right (And.right (And.right (And.right (And.right (by assumption)))))))) | exact allLt_ne (And.right (And.right (And.right (And.right (And.right (And.right (And.right (And.right (by assumption))))))))) | exact List.forall_mem_nil _ | (refine' List.forall_mem_cons.mpr ⟨?a, ?b⟩; (case a => k_ne); (case b => k_all)))
local macro_rules | `(tactic| walk_at "call builtin:len") => `(tactic| (k_here; (with_reducible show wpAny _ _ (call (Value.builtin "len") [Value.ref _]) _ _ _); k_dflt (refine' len_led ?k1 ?k2 ?k3 ?_; (case k1 => k_asm); (case k2 => k_mem); (case k3 => omega); k_whole)))
local macro_rules | `(tactic| walk_at $s:str) => `(tactic| k_extra $s)
section
section
set_option maxRecDepth 100000 in
set_option maxHeartbeats 8000000 in
theorem take_spec {w : World} {mean : ExcName → Option Value} {mg mb : Str → Option Value} {dp un : Nat} {gd : Option (List Code)} {cn : Str} {cs : Scope} {a : Addr} {ccd : Value} {cl : List (Str × Addr)} {outer : List Env} {A₀ : Around} {base h₀ : Heap} {L : Addr} {m : Str → Option Value} {s : Shared} {Q E : Value → Shared → Prop} {rest : List (Addr × Obj)} {src : Addr} {x y top : Int} {tx ty tt : Tok} {n : Nat} (B : Below A₀ base outer h₀) (F : Fr h₀ L s.heap m) (X : Frag.In (KF w.params) h₀) (N : News h₀ L s.heap ((src, listOf #[.int x tx, .int y ty] n) :: rest)) (T : Top VW (looseW VW LOOSE) mean mg mb h₀) (hk : cs.kind = .function)
    (hap : ∀ p ∈ rest, p.1 ≠ src) (ht1 : 0 < top) (ht2 : top ≤ 100) (hx : 0 ≤ x) (hy : 0 ≤ y) (hy2 : y < 2147483647) (hd : dp < 500) (hu : un < 2000)
    (ret : ∀ d td x' tx' y' ty' n' h' tk', 0 ≤ d → d < top → 0 ≤ x' → 0 ≤ y' → y' < 2147483647 → Fr h₀ L h' m → News h₀ L h' ((src, listOf #[.int x' tx', .int y' ty'] n') :: rest) → Q (.int d td) { s with heap := h', toks := tk' }) :
    wpAny (model PySem.Challenge.rw_nt0116_01.row.prog w) (ktrTop dp un gd cn cs L a ccd cl outer) (call (.ref 677) [.ref src, .int top tt]) Q E s := by
  k_with_none
  k_with "binaryOp Mult int int" => ((refine mul_int ?_ sq_ok))
  refine wpAny_call ?_
  k_dflt ktr_enter
  k_steps
  all_goals (refine' ret _ _ _ _ _ _ _ _ _ ?_ ?_ ?_ ?_ ?_ ?f9 ?g9; (case f9 => k_asm); (case g9 => k_asm); all_goals first | exact hx | exact hy | exact hy2 | exact (fm_pos ht1).1 | exact (fm_pos ht1).2 | exact (fm_pos (by decide)).1 | exact (fm_pos (by decide)).2 | exact fd_pos ht1 hx)
end
theorem take_at {w : World} {mean : ExcName → Option Value} {mg mb : Str → Option Value} {dp un : Nat} {gd : Option (List Code)} {cn : Str} {cs : Scope} {a : Addr} {ccd : Value} {cl : List (Str × Addr)} {outer : List Env} {A₀ : Around} {base h₀ : Heap} {L : Addr} {m : Str → Option Value} {s : Shared} {Q E : Value → Shared → Prop} {rest l : List (Addr × Obj)} {src : Addr} {x y top : Int} {tx ty tt : Tok} {n : Nat} (B : Below A₀ base outer h₀) (F : Fr h₀ L s.heap m) (X : Frag.In (KF w.params) h₀) (N : News h₀ L s.heap (l)) (T : Top VW (looseW VW LOOSE) mean mg mb h₀) (hk : cs.kind = .function)
    (S : Sel (src, listOf #[.int x tx, .int y ty] n) l rest)
    (hap : ∀ p ∈ rest, p.1 ≠ src) (ht1 : 0 < top) (ht2 : top ≤ 100) (hx : 0 ≤ x) (hy : 0 ≤ y) (hy2 : y < 2147483647) (hd : dp < 500) (hu : un < 2000)
    (ret : ∀ d td x' tx' y' ty' n' h' tk', 0 ≤ d → d < top → 0 ≤ x' → 0 ≤ y' → y' < 2147483647 → Fr h₀ L h' m → News h₀ L h' ((src, listOf #[.int x' tx', .int y' ty'] n') :: rest) → Q (.int d td) { s with heap := h', toks := tk' }) :
    wpAny (model PySem.Challenge.rw_nt0116_01.row.prog w) (ktrTop dp un gd cn cs L a ccd cl outer) (call (.ref 677) [.ref src, .int top tt]) Q E s :=
  take_spec B F X (news_sub N S.sub) T hk hap ht1 ht2 hx hy hy2 hd hu ret
end
section
section
set_option maxRecDepth 100000 in
set_option maxHeartbeats 8000000 in
theorem one_spec {w : World} {mean : ExcName → Option Value} {mg mb : Str → Option Value} {dp un : Nat} {gd : Option (List Code)} {cn : Str} {cs : Scope} {a : Addr} {ccd : Value} {cl : List (Str × Addr)} {outer : List Env} {A₀ : Around} {base h₀ : Heap} {L : Addr} {m : Str → Option Value} {s : Shared} {Q E : Value → Shared → Prop} {rest l : List (Addr × Obj)} {src th : Addr} {x y : Int} {tx ty : Tok} {n k : Nat} {vs : List Value} (B : Below A₀ base outer h₀) (F : Fr h₀ L s.heap m) (X : Frag.In (KF w.params) h₀) (N : News h₀ L s.heap (l)) (T : Top VW (looseW VW LOOSE) mean mg mb h₀) (hk : cs.kind = .function)
    (S : Sel (src, listOf #[.int x tx, .int y ty] n) l rest) (hap : ∀ p ∈ rest, p.1 ≠ src) (hth : (th, listOf vs.toArray k) ∈ rest) (h1 : 1 ≤ vs.length) (h2 : vs.length ≤ 100) (hx : 0 ≤ x) (hy : 0 ≤ y) (hy2 : y < 2147483647) (hd : dp < 490) (hu : un < 1900)
    (ret : ∀ v x' tx' y' ty' n' h' tk', v ∈ vs → 0 ≤ x' → 0 ≤ y' → y' < 2147483647 → Fr h₀ L h' m → News h₀ L h' ((src, listOf #[.int x' tx', .int y' ty'] n') :: rest) → Q v { s with heap := h', toks := tk' }) :
    wpAny (model PySem.Challenge.rw_nt0116_01.row.prog w) (ktrTop dp un gd cn cs L a ccd cl outer) (call (.ref 684) [.ref src, .ref th]) Q E s := by
  k_with_none
  k_with "call ref" => ((k_here; (with_reducible show wpAny _ _ (call (Value.ref 677) _) _ _ _); k_dflt (refine' take_at ?B ?F ?X ?N ?T ?K ?S ?hap ?t1 ?t2 ?x ?y ?y2 ?dd ?uu ?_; (case B => k_asm); (case F => k_asm); (case X => k_asm); (case N => k_asm); (case T => k_asm); (case K => first | exact rfl | assumption); (case S => repeat' (first | exact Sel.head | refine' Sel.tail ?_)); (case hap => k_all); (case t1 => omega); (case t2 => omega); (case x => assumption); (case y => assumption); (case y2 => assumption); (case dd => ktr_room); (case uu => ktr_units); k_whole); intro d' td' x' tx' y' ty' n' h' tk' d0' d1' x0' y0' y1' F' N'; (try k_sweep); skip; (all_goals (try dsimp only)); (all_goals (try k_fold))))
  k_with "subscriptTail" => ((k_here; (with_reducible show wpAny _ _ (subscriptTail _ _ (Value.ref _) (Value.int _ _)) _ _ _); k_dflt (refine' item_led ?k1 ?k2 ?k3 ?k4 ?k5 ?_; (case k1 => k_asm); (case k2 => k_mem); (case k3 => assumption); (case k4 => assumption); (case k5 => omega); k_whole); intro v' hv' hi'))
  replace N := news_sub N S.sub
  clear S
  refine wpAny_call ?_
  k_dflt ktr_enter
  k_steps
  all_goals (refine' ret _ _ _ _ _ _ _ _ ?_ ?_ ?_ ?_ ?f9 ?g9; (case f9 => k_asm); (case g9 => k_asm); all_goals assumption)
end
end
section
set_option maxRecDepth 100000 in
set_option maxHeartbeats 8000000 in
theorem new_Literal {w : World} {mean : ExcName → Option Value} {mg mb : Str → Option Value} {dp un : Nat} {gd : Option (List Code)} {cn : Str} {cs : Scope} {a : Addr} {ccd : Value} {cl : List (Str × Addr)} {outer : List Env} {A₀ : Around} {base h₀ : Heap} {L : Addr} {m : Str → Option Value} {s : Shared} {Q E : Value → Shared → Prop} {news : List (Addr × Obj)} {v0 : Value} (B : Below A₀ base outer h₀) (F : Fr h₀ L s.heap m) (X : Frag.In (KF w.params) h₀) (N : News h₀ L s.heap (news)) (T : Top VW (looseW VW LOOSE) mean mg mb h₀) (hk : cs.kind = .function) (hd : dp < 520) (hu : un < 2200)
    (ret : ∀ (x dx  : Addr) (h' : Heap) (tk : Nat) (t0 : Tok), AllLt dx news → dx < x → Fr h₀ L h' m → News h₀ L h' ((x, instObj 95 dx) :: (dx, dictOf [⟨PyData.keyHash w.params (Str.ofString "value"), .str (Str.ofString "value") t0, v0⟩] 1) :: news) → Q (.ref x) { s with heap := h', toks := tk }) :
    wpAny (model PySem.Challenge.rw_nt0116_01.row.prog w) (ktrTop dp un gd cn cs L a ccd cl outer) (call (.ref 95) [v0]) Q E s := by
  k_with_none
  k_dflt (refine' call_cls ?k1 ?k2 ?k3 ?k4 ?k5 ?k6 ?_; (case k1 => k_asm); (case k2 => k_asm); (case k3 => k_asm); (case k4 => k_is); (case k5 => k_is); (case k6 => k_is); k_whole)
  intro x' d' h' F' N' l1 l2
  replace l1 := allLt_of l1
  replace l2 := ltN l2
  k_dflt ktr_enter
  k_steps
  all_goals (refine' ret _ _ _ _ _ ?_ ?_ ?f9 ?g9; (case f9 => k_asm); (case g9 => k_asm); all_goals first | assumption | (refine ltN ?_; omega))

set_option maxRecDepth 100000 in
set_option maxHeartbeats 8000000 in
theorem new_Bound {w : World} {mean : ExcName → Option Value} {mg mb : Str → Option Value} {dp un : Nat} {gd : Option (List Code)} {cn : Str} {cs : Scope} {a : Addr} {ccd : Value} {cl : List (Str × Addr)} {outer : List Env} {A₀ : Around} {base h₀ : Heap} {L : Addr} {m : Str → Option Value} {s : Shared} {Q E : Value → Shared → Prop} {news : List (Addr × Obj)} {v0 v1 v2 v3 v4 : Value} (B : Below A₀ base outer h₀) (F : Fr h₀ L s.heap m) (X : Frag.In (KF w.params) h₀) (N : News h₀ L s.heap (news)) (T : Top VW (looseW VW LOOSE) mean mg mb h₀) (hk : cs.kind = .function) (hd : dp < 520) (hu : un < 2200)
    (ret : ∀ (x dx  : Addr) (h' : Heap) (tk : Nat) (t0 t1 t2 t3 t4 : Tok), AllLt dx news → dx < x → Fr h₀ L h' m → News h₀ L h' ((x, instObj 417 dx) :: (dx, dictOf [⟨PyData.keyHash w.params (Str.ofString "place"), .str (Str.ofString "place") t0, v0⟩, ⟨PyData.keyHash w.params (Str.ofString "op"), .str (Str.ofString "op") t1, v1⟩, ⟨PyData.keyHash w.params (Str.ofString "value"), .str (Str.ofString "value") t2, v2⟩, ⟨PyData.keyHash w.params (Str.ofString "affinity"), .str (Str.ofString "affinity") t3, v3⟩, ⟨PyData.keyHash w.params (Str.ofString "collation"), .str (Str.ofString "collation") t4, v4⟩] 5) :: news) → Q (.ref x) { s with heap := h', toks := tk }) :
    wpAny (model PySem.Challenge.rw_nt0116_01.row.prog w) (ktrTop dp un gd cn cs L a ccd cl outer) (call (.ref 417) [v0, v1, v2, v3, v4]) Q E s := by
  k_with_none
  k_dflt (refine' call_cls ?k1 ?k2 ?k3 ?k4 ?k5 ?k6 ?_; (case k1 => k_asm); (case k2 => k_asm); (case k3 => k_asm); (case k4 => k_is); (case k5 => k_is); (case k6 => k_is); k_whole)
  intro x' d' h' F' N' l1 l2
  replace l1 := allLt_of l1
  replace l2 := ltN l2
  k_dflt ktr_enter
  k_steps
  all_goals (refine' ret _ _ _ _ _ _ _ _ _ ?_ ?_ ?f9 ?g9; (case f9 => k_asm); (case g9 => k_asm); all_goals first | assumption | (refine ltN ?_; omega))

set_option maxRecDepth 100000 in
set_option maxHeartbeats 8000000 in
theorem new_Source {w : World} {mean : ExcName → Option Value} {mg mb : Str → Option Value} {dp un : Nat} {gd : Option (List Code)} {cn : Str} {cs : Scope} {a : Addr} {ccd : Value} {cl : List (Str × Addr)} {outer : List Env} {A₀ : Around} {base h₀ : Heap} {L : Addr} {m : Str → Option Value} {s : Shared} {Q E : Value → Shared → Prop} {news : List (Addr × Obj)} {v0 v1 v2 v3 v4 v5 v6 : Value} (B : Below A₀ base outer h₀) (F : Fr h₀ L s.heap m) (X : Frag.In (KF w.params) h₀) (N : News h₀ L s.heap (news)) (T : Top VW (looseW VW LOOSE) mean mg mb h₀) (hk : cs.kind = .function) (hd : dp < 520) (hu : un < 2200)
    (ret : ∀ (x dx e0 : Addr) (h' : Heap) (tk : Nat) (t0 t1 t2 t3 t4 t5 t6 t7 t8 : Tok), AllLt dx news → dx < x → x < e0 → Fr h₀ L h' m → News h₀ L h' ((e0, listOf #[] 0) :: (x, instObj 584 dx) :: (dx, dictOf [⟨PyData.keyHash w.params (Str.ofString "number"), .str (Str.ofString "number") t0, v0⟩, ⟨PyData.keyHash w.params (Str.ofString "alias"), .str (Str.ofString "alias") t1, v1⟩, ⟨PyData.keyHash w.params (Str.ofString "table"), .str (Str.ofString "table") t2, v2⟩, ⟨PyData.keyHash w.params (Str.ofString "columns"), .str (Str.ofString "columns") t3, v3⟩, ⟨PyData.keyHash w.params (Str.ofString "select"), .str (Str.ofString "select") t4, v4⟩, ⟨PyData.keyHash w.params (Str.ofString "kind"), .str (Str.ofString "kind") t5, v5⟩, ⟨PyData.keyHash w.params (Str.ofString "hint"), .str (Str.ofString "hint") t6, v6⟩, ⟨PyData.keyHash w.params (Str.ofString "on"), .str (Str.ofString "on") t7, .none⟩, ⟨PyData.keyHash w.params (Str.ofString "using"), .str (Str.ofString "using") t8, .ref e0⟩] 9) :: news) → Q (.ref x) { s with heap := h', toks := tk }) :
    wpAny (model PySem.Challenge.rw_nt0116_01.row.prog w) (ktrTop dp un gd cn cs L a ccd cl outer) (call (.ref 584) [v0, v1, v2, v3, v4, v5, v6]) Q E s := by
  k_with_none
  k_dflt (refine' call_cls ?k1 ?k2 ?k3 ?k4 ?k5 ?k6 ?_; (case k1 => k_asm); (case k2 => k_asm); (case k3 => k_asm); (case k4 => k_is); (case k5 => k_is); (case k6 => k_is); k_whole)
  intro x' d' h' F' N' l1 l2
  replace l1 := allLt_of l1
  replace l2 := ltN l2
  k_dflt ktr_enter
  k_steps
  all_goals (refine' ret _ _ _ _ _ _ _ _ _ _ _ _ _ _ ?_ ?_ ?_ ?f9 ?g9; (case f9 => k_asm); (case g9 => k_asm); all_goals first | assumption | (refine ltN ?_; omega))

set_option maxRecDepth 100000 in
set_option maxHeartbeats 8000000 in
theorem new_Index {w : World} {mean : ExcName → Option Value} {mg mb : Str → Option Value} {dp un : Nat} {gd : Option (List Code)} {cn : Str} {cs : Scope} {a : Addr} {ccd : Value} {cl : List (Str × Addr)} {outer : List Env} {A₀ : Around} {base h₀ : Heap} {L : Addr} {m : Str → Option Value} {s : Shared} {Q E : Value → Shared → Prop} {news : List (Addr × Obj)} {v0 v1 v2 v3 v4 v5 v6 : Value} (B : Below A₀ base outer h₀) (F : Fr h₀ L s.heap m) (X : Frag.In (KF w.params) h₀) (N : News h₀ L s.heap (news)) (T : Top VW (looseW VW LOOSE) mean mg mb h₀) (hk : cs.kind = .function) (hd : dp < 520) (hu : un < 2200)
    (ret : ∀ (x dx  : Addr) (h' : Heap) (tk : Nat) (t0 t1 t2 t3 t4 t5 t6 : Tok), AllLt dx news → dx < x → Fr h₀ L h' m → News h₀ L h' ((x, instObj 617 dx) :: (dx, dictOf [⟨PyData.keyHash w.params (Str.ofString "name"), .str (Str.ofString "name") t0, v0⟩, ⟨PyData.keyHash w.params (Str.ofString "table"), .str (Str.ofString "table") t1, v1⟩, ⟨PyData.keyHash w.params (Str.ofString "root"), .str (Str.ofString "root") t2, v2⟩, ⟨PyData.keyHash w.params (Str.ofString "columns"), .str (Str.ofString "columns") t3, v3⟩, ⟨PyData.keyHash w.params (Str.ofString "unique"), .str (Str.ofString "unique") t4, v4⟩, ⟨PyData.keyHash w.params (Str.ofString "origin"), .str (Str.ofString "origin") t5, v5⟩, ⟨PyData.keyHash w.params (Str.ofString "sql"), .str (Str.ofString "sql") t6, v6⟩] 7) :: news) → Q (.ref x) { s with heap := h', toks := tk }) :
    wpAny (model PySem.Challenge.rw_nt0116_01.row.prog w) (ktrTop dp un gd cn cs L a ccd cl outer) (call (.ref 617) [v0, v1, v2, v3, v4, v5, v6]) Q E s := by
  k_with_none
  k_dflt (refine' call_cls ?k1 ?k2 ?k3 ?k4 ?k5 ?k6 ?_; (case k1 => k_asm); (case k2 => k_asm); (case k3 => k_asm); (case k4 => k_is); (case k5 => k_is); (case k6 => k_is); k_whole)
  intro x' d' h' F' N' l1 l2
  replace l1 := allLt_of l1
  replace l2 := ltN l2
  k_dflt ktr_enter
  k_steps
  all_goals (refine' ret _ _ _ _ _ _ _ _ _ _ _ ?_ ?_ ?f9 ?g9; (case f9 => k_asm); (case g9 => k_asm); all_goals first | assumption | (refine ltN ?_; omega))

set_option maxRecDepth 100000 in
set_option maxHeartbeats 8000000 in
theorem new_Table {w : World} {mean : ExcName → Option Value} {mg mb : Str → Option Value} {dp un : Nat} {gd : Option (List Code)} {cn : Str} {cs : Scope} {a : Addr} {ccd : Value} {cl : List (Str × Addr)} {outer : List Env} {A₀ : Around} {base h₀ : Heap} {L : Addr} {m : Str → Option Value} {s : Shared} {Q E : Value → Shared → Prop} {news : List (Addr × Obj)} {v0 v1 v2 v3 : Value} (B : Below A₀ base outer h₀) (F : Fr h₀ L s.heap m) (X : Frag.In (KF w.params) h₀) (N : News h₀ L s.heap (news)) (T : Top VW (looseW VW LOOSE) mean mg mb h₀) (hk : cs.kind = .function) (hd : dp < 520) (hu : un < 2200)
    (ret : ∀ (x dx e0 e1 e2 : Addr) (h' : Heap) (tk : Nat) (t0 t1 t2 t3 t4 t5 t6 t7 : Tok), AllLt dx news → dx < x → x < e0 → e0 < e1 → e1 < e2 → Fr h₀ L h' m → News h₀ L h' ((e2, listOf #[] 0) :: (e1, listOf #[] 0) :: (e0, listOf #[] 0) :: (x, instObj 659 dx) :: (dx, dictOf [⟨PyData.keyHash w.params (Str.ofString "name"), .str (Str.ofString "name") t0, v0⟩, ⟨PyData.keyHash w.params (Str.ofString "root"), .str (Str.ofString "root") t1, v1⟩, ⟨PyData.keyHash w.params (Str.ofString "columns"), .str (Str.ofString "columns") t2, v2⟩, ⟨PyData.keyHash w.params (Str.ofString "rowid_place"), .str (Str.ofString "rowid_place") t3, .none⟩, ⟨PyData.keyHash w.params (Str.ofString "indexes"), .str (Str.ofString "indexes") t4, .ref e0⟩, ⟨PyData.keyHash w.params (Str.ofString "checks"), .str (Str.ofString "checks") t5, .ref e1⟩, ⟨PyData.keyHash w.params (Str.ofString "sql"), .str (Str.ofString "sql") t6, v3⟩, ⟨PyData.keyHash w.params (Str.ofString "primary"), .str (Str.ofString "primary") t7, .ref e2⟩] 8) :: news) → Q (.ref x) { s with heap := h', toks := tk }) :
    wpAny (model PySem.Challenge.rw_nt0116_01.row.prog w) (ktrTop dp un gd cn cs L a ccd cl outer) (call (.ref 659) [v0, v1, v2, v3]) Q E s := by
  k_with_none
  k_dflt (refine' call_cls ?k1 ?k2 ?k3 ?k4 ?k5 ?k6 ?_; (case k1 => k_asm); (case k2 => k_asm); (case k3 => k_asm); (case k4 => k_is); (case k5 => k_is); (case k6 => k_is); k_whole)
  intro x' d' h' F' N' l1 l2
  replace l1 := allLt_of l1
  replace l2 := ltN l2
  k_dflt ktr_enter
  k_steps
  all_goals (refine' ret _ _ _ _ _ _ _ _ _ _ _ _ _ _ _ ?_ ?_ ?_ ?_ ?_ ?f9 ?g9; (case f9 => k_asm); (case g9 => k_asm); all_goals first | assumption | (refine ltN ?_; omega))

set_option maxRecDepth 100000 in
set_option maxHeartbeats 8000000 in
theorem new_Path {w : World} {mean : ExcName → Option Value} {mg mb : Str → Option Value} {dp un : Nat} {gd : Option (List Code)} {cn : Str} {cs : Scope} {a : Addr} {ccd : Value} {cl : List (Str × Addr)} {outer : List Env} {A₀ : Around} {base h₀ : Heap} {L : Addr} {m : Str → Option Value} {s : Shared} {Q E : Value → Shared → Prop} {news : List (Addr × Obj)} {v0 v1 : Value} (B : Below A₀ base outer h₀) (F : Fr h₀ L s.heap m) (X : Frag.In (KF w.params) h₀) (N : News h₀ L s.heap (news)) (T : Top VW (looseW VW LOOSE) mean mg mb h₀) (hk : cs.kind = .function) (hd : dp < 520) (hu : un < 2200)
    (ret : ∀ (x dx e0 e1 : Addr) (h' : Heap) (tk : Nat) (t0 t1 t2 t3 t4 t5 t6 t7 t8 t9 t10 t11 t12 t13 t14 tr tc : Tok), AllLt dx news → dx < x → x < e0 → e0 < e1 → Fr h₀ L h' m → News h₀ L h' ((e1, listOf #[] 0) :: (e0, listOf #[] 0) :: (x, instObj 474 dx) :: (dx, dictOf [⟨PyData.keyHash w.params (Str.ofString "kind"), .str (Str.ofString "kind") t0, v0⟩, ⟨PyData.keyHash w.params (Str.ofString "index"), .str (Str.ofString "index") t1, v1⟩, ⟨PyData.keyHash w.params (Str.ofString "equals"), .str (Str.ofString "equals") t2, .ref e0⟩, ⟨PyData.keyHash w.params (Str.ofString "equal_affinities"), .str (Str.ofString "equal_affinities") t3, .ref e1⟩, ⟨PyData.keyHash w.params (Str.ofString "low"), .str (Str.ofString "low") t4, .none⟩, ⟨PyData.keyHash w.params (Str.ofString "high"), .str (Str.ofString "high") t5, .none⟩, ⟨PyData.keyHash w.params (Str.ofString "low_affinity"), .str (Str.ofString "low_affinity") t6, .none⟩, ⟨PyData.keyHash w.params (Str.ofString "high_affinity"), .str (Str.ofString "high_affinity") t7, .none⟩, ⟨PyData.keyHash w.params (Str.ofString "in_list"), .str (Str.ofString "in_list") t8, .none⟩, ⟨PyData.keyHash w.params (Str.ofString "in_affinity"), .str (Str.ofString "in_affinity") t9, .none⟩, ⟨PyData.keyHash w.params (Str.ofString "covering"), .str (Str.ofString "covering") t10, .bool false⟩, ⟨PyData.keyHash w.params (Str.ofString "descending"), .str (Str.ofString "descending") t11, .bool false⟩, ⟨PyData.keyHash w.params (Str.ofString "is_single"), .str (Str.ofString "is_single") t12, .bool false⟩, ⟨PyData.keyHash w.params (Str.ofString "rows"), .str (Str.ofString "rows") t13, .int 1000 tr⟩, ⟨PyData.keyHash w.params (Str.ofString "cost"), .str (Str.ofString "cost") t14, .int 2000 tc⟩] 15) :: news) → Q (.ref x) { s with heap := h', toks := tk }) :
    wpAny (model PySem.Challenge.rw_nt0116_01.row.prog w) (ktrTop dp un gd cn cs L a ccd cl outer) (call (.ref 474) [v0, v1]) Q E s := by
  k_with_none
  k_dflt (refine' call_cls ?k1 ?k2 ?k3 ?k4 ?k5 ?k6 ?_; (case k1 => k_asm); (case k2 => k_asm); (case k3 => k_asm); (case k4 => k_is); (case k5 => k_is); (case k6 => k_is); k_whole)
  intro x' d' h' F' N' l1 l2
  replace l1 := allLt_of l1
  replace l2 := ltN l2
  k_dflt ktr_enter
  k_steps
  all_goals (refine' ret _ _ _ _ _ _ _ _ _ _ _ _ _ _ _ _ _ _ _ _ _ _ _ ?_ ?_ ?_ ?_ ?f9 ?g9; (case f9 => k_asm); (case g9 => k_asm); all_goals first | assumption | (refine ltN ?_; omega))

set_option maxRecDepth 100000 in
set_option maxHeartbeats 8000000 in
theorem new_Path1 {w : World} {mean : ExcName → Option Value} {mg mb : Str → Option Value} {dp un : Nat} {gd : Option (List Code)} {cn : Str} {cs : Scope} {a : Addr} {ccd : Value} {cl : List (Str × Addr)} {outer : List Env} {A₀ : Around} {base h₀ : Heap} {L : Addr} {m : Str → Option Value} {s : Shared} {Q E : Value → Shared → Prop} {news : List (Addr × Obj)} {v0 : Value} (B : Below A₀ base outer h₀) (F : Fr h₀ L s.heap m) (X : Frag.In (KF w.params) h₀) (N : News h₀ L s.heap (news)) (T : Top VW (looseW VW LOOSE) mean mg mb h₀) (hk : cs.kind = .function) (hd : dp < 520) (hu : un < 2200)
    (ret : ∀ (x dx e0 e1 : Addr) (h' : Heap) (tk : Nat) (t0 t1 t2 t3 t4 t5 t6 t7 t8 t9 t10 t11 t12 t13 t14 tr tc : Tok), AllLt dx news → dx < x → x < e0 → e0 < e1 → Fr h₀ L h' m → News h₀ L h' ((e1, listOf #[] 0) :: (e0, listOf #[] 0) :: (x, instObj 474 dx) :: (dx, dictOf [⟨PyData.keyHash w.params (Str.ofString "kind"), .str (Str.ofString "kind") t0, v0⟩, ⟨PyData.keyHash w.params (Str.ofString "index"), .str (Str.ofString "index") t1, .none⟩, ⟨PyData.keyHash w.params (Str.ofString "equals"), .str (Str.ofString "equals") t2, .ref e0⟩, ⟨PyData.keyHash w.params (Str.ofString "equal_affinities"), .str (Str.ofString "equal_affinities") t3, .ref e1⟩, ⟨PyData.keyHash w.params (Str.ofString "low"), .str (Str.ofString "low") t4, .none⟩, ⟨PyData.keyHash w.params (Str.ofString "high"), .str (Str.ofString "high") t5, .none⟩, ⟨PyData.keyHash w.params (Str.ofString "low_affinity"), .str (Str.ofString "low_affinity") t6, .none⟩, ⟨PyData.keyHash w.params (Str.ofString "high_affinity"), .str (Str.ofString "high_affinity") t7, .none⟩, ⟨PyData.keyHash w.params (Str.ofString "in_list"), .str (Str.ofString "in_list") t8, .none⟩, ⟨PyData.keyHash w.params (Str.ofString "in_affinity"), .str (Str.ofString "in_affinity") t9, .none⟩, ⟨PyData.keyHash w.params (Str.ofString "covering"), .str (Str.ofString "covering") t10, .bool false⟩, ⟨PyData.keyHash w.params (Str.ofString "descending"), .str (Str.ofString "descending") t11, .bool false⟩, ⟨PyData.keyHash w.params (Str.ofString "is_single"), .str (Str.ofString "is_single") t12, .bool false⟩, ⟨PyData.keyHash w.params (Str.ofString "rows"), .str (Str.ofString "rows") t13, .int 1000 tr⟩, ⟨PyData.keyHash w.params (Str.ofString "cost"), .str (Str.ofString "cost") t14, .int 2000 tc⟩] 15) :: news) → Q (.ref x) { s with heap := h', toks := tk }) :
    wpAny (model PySem.Challenge.rw_nt0116_01.row.prog w) (ktrTop dp un gd cn cs L a ccd cl outer) (call (.ref 474) [v0]) Q E s := by
  k_with_none
  k_dflt (refine' call_cls ?k1 ?k2 ?k3 ?k4 ?k5 ?k6 ?_; (case k1 => k_asm); (case k2 => k_asm); (case k3 => k_asm); (case k4 => k_is); (case k5 => k_is); (case k6 => k_is); k_whole)
  intro x' d' h' F' N' l1 l2
  replace l1 := allLt_of l1
  replace l2 := ltN l2
  k_dflt ktr_enter
  k_steps
  all_goals (refine' ret _ _ _ _ _ _ _ _ _ _ _ _ _ _ _ _ _ _ _ _ _ _ _ ?_ ?_ ?_ ?_ ?f9 ?g9; (case f9 => k_asm); (case g9 => k_asm); all_goals first | assumption | (refine ltN ?_; omega))
end
section
def OpOk (op : PySem.Str) : Prop := op = Str.ofString "=" ∨ op = Str.ofString "in" ∨ op = Str.ofString "<" ∨ op = Str.ofString "<=" ∨ op = Str.ofString ">" ∨ op = Str.ofString ">="
theorem op_of {v : Value} {t1 t2 t3 t4 t5 t6 t7 : Tok} (h : v ∈ [Value.str (Str.ofString "=") t1, .str (Str.ofString "=") t2, .str (Str.ofString "in") t3, .str (Str.ofString "<") t4, .str (Str.ofString "<=") t5, .str (Str.ofString ">") t6, .str (Str.ofString ">=") t7]) :
    ∃ op t, v = .str op t ∧ OpOk op := by
  simp only [List.mem_cons, List.not_mem_nil, or_false] at h
  rcases h with h | h | h | h | h | h | h
  · exact ⟨_, _, h, .inl rfl⟩
  · exact ⟨_, _, h, .inl rfl⟩
  · exact ⟨_, _, h, .inr (.inl rfl)⟩
  · exact ⟨_, _, h, .inr (.inr (.inl rfl))⟩
  · exact ⟨_, _, h, .inr (.inr (.inr (.inl rfl)))⟩
  · exact ⟨_, _, h, .inr (.inr (.inr (.inr (.inl rfl))))⟩
  · exact ⟨_, _, h, .inr (.inr (.inr (.inr (.inr rfl))))⟩
theorem three {d : Int} (h : 0 ≤ d) (h' : d < 3) : d = 0 ∨ d = 1 ∨ d = 2 := by omega
def LitIn (w : World) (news : List (Addr × Obj)) (v : Value) : Prop := ∃ (l dl : Addr) (i : Int) (t ti : Tok), v = .ref l ∧ (l, instObj 95 dl) ∈ news ∧ (dl, dictOf [⟨PyData.keyHash w.params (Str.ofString "value"), .str (Str.ofString "value") t, .int i ti⟩] 1) ∈ news
theorem LitIn.mono {w : World} {l l' : List (Addr × Obj)} {v : Value} (h : LitIn w l v) (hs : ∀ p ∈ l, p ∈ l') : LitIn w l' v := by
  obtain ⟨a, b, i, t, ti, e, h1, h2⟩ := h
  exact ⟨a, b, i, t, ti, e, hs _ h1, hs _ h2⟩
def ValOk (w : World) (news : List (Addr × Obj)) (op : PySem.Str) (v : Value) : Prop := (op ≠ Str.ofString "in" ∧ LitIn w news v) ∨ (op = Str.ofString "in" ∧ ∃ (lv : Addr) (vs : List Value) (n : Nat), v = .ref lv ∧ (lv, listOf vs.toArray n) ∈ news ∧ 1 ≤ vs.length ∧ vs.length ≤ 3)
theorem ValOk.mono {w : World} {l l' : List (Addr × Obj)} {op : PySem.Str} {v : Value} (h : ValOk w l op v) (hs : ∀ p ∈ l, p ∈ l') : ValOk w l' op v := by
  rcases h with ⟨h1, h2⟩ | ⟨h1, lv, vs, n, e, h2, h3⟩
  · exact .inl ⟨h1, h2.mono hs⟩
  · exact .inr ⟨h1, lv, vs, n, e, hs _ h2, h3⟩
noncomputable abbrev boundD (w : World) (place : Int) (op : PySem.Str) (v : Value) (t0 t1 t2 t3 t4 tp to tc : Tok) : Obj := dictOf [⟨PyData.keyHash w.params (Str.ofString "place"), .str (Str.ofString "place") t0, .int place tp⟩, ⟨PyData.keyHash w.params (Str.ofString "op"), .str (Str.ofString "op") t1, .str op to⟩, ⟨PyData.keyHash w.params (Str.ofString "value"), .str (Str.ofString "value") t2, v⟩, ⟨PyData.keyHash w.params (Str.ofString "affinity"), .str (Str.ofString "affinity") t3, .none⟩, ⟨PyData.keyHash w.params (Str.ofString "collation"), .str (Str.ofString "collation") t4, .str (Str.ofString "binary") tc⟩] 5
def BoundAt (w : World) (news : List (Addr × Obj)) (b : Value) (op : PySem.Str) : Prop := ∃ (x dx : Addr) (place : Int) (v : Value) (t0 t1 t2 t3 t4 tp to tc : Tok), b = .ref x ∧ OpOk op ∧ ValOk w news op v ∧ (x, instObj 417 dx) ∈ news ∧ (dx, boundD w place op v t0 t1 t2 t3 t4 tp to tc) ∈ news
def BoundIn (w : World) (news : List (Addr × Obj)) (b : Value) : Prop := ∃ op, BoundAt w news b op
theorem BoundAt.mono {w : World} {l l' : List (Addr × Obj)} {v : Value} {op : PySem.Str} (h : BoundAt w l v op) (hs : ∀ p ∈ l, p ∈ l') : BoundAt w l' v op := by
  obtain ⟨x, dx, place, v, t0, t1, t2, t3, t4, tp, to, tc, e, h0, hv, h1, h2⟩ := h
  exact ⟨x, dx, place, v, t0, t1, t2, t3, t4, tp, to, tc, e, h0, hv.mono hs, hs _ h1, hs _ h2⟩
theorem BoundIn.mono {w : World} {l l' : List (Addr × Obj)} {v : Value} (h : BoundIn w l v) (hs : ∀ p ∈ l, p ∈ l') : BoundIn w l' v := let ⟨op, h⟩ := h; ⟨op, h.mono hs⟩
theorem op_ne {a b : PySem.Str} (h : ¬ (a == b) = true) : a ≠ b := fun e => h (by rw [e]; exact beq_self_eq_true b)
theorem op_nf {a b : PySem.Str} (h : (a == b) = false) : a ≠ b := fun e => by rw [e, beq_self_eq_true] at h; cases h
theorem op_eq {a b : PySem.Str} (h : (a == b) = true) : a = b := eq_of_beq h
end
section
/-- `l` is `K` ahead of `rest`; all of `K` is newer -/
inductive Split (rest : List (Addr × Obj)) : List (Addr × Obj) → List (Addr × Obj) → Prop
  | nil : Split rest rest []
  | cons {q l K} : (∀ p ∈ rest, p.1 ≠ q.1) → Split rest l K → Split rest (q :: l) (q :: K)
theorem Split.sub {rest l K : List (Addr × Obj)} (h : Split rest l K) : ∀ p ∈ K ++ rest, p ∈ l := by
  induction h with
  | nil => exact fun p hp => by simpa using hp
  | cons _ _ ih =>
    intro p hp
    rcases List.mem_cons.mp hp with e | hp
    · exact e ▸ List.mem_cons_self
    · exact List.mem_cons_of_mem _ (ih p hp)
theorem Split.ne {rest l K : List (Addr × Obj)} (h : Split rest l K) : ∀ p ∈ K, ∀ q ∈ rest, q.1 ≠ p.1 := by
  induction h with
  | nil => exact fun p hp => nomatch hp
  | cons a _ ih =>
    intro p hp
    rcases List.mem_cons.mp hp with e | hp
    · exact e ▸ fun q hq => a q hq
    · exact ih p hp
theorem allLt_trans2 {d d' : Addr} {r : List (Addr × Obj)} (hd : d < d') (h : AllLt d r) : ∀ p ∈ r, p.1 ≠ d' := allLt_ne (allLt_trans h hd)
theorem off1_ne {d : Addr} : ∀ {r : List (Addr × Obj)}, LCg.Off1 d r → ∀ p ∈ r, p.1 ≠ d
  | [], _, _, h => nomatch h
  | _ :: _, x, p, h => by
    rcases List.mem_cons.mp h with e | h
    · exact e ▸ x.1
    · exact off1_ne x.2 p h
theorem split_news {q : Addr × Obj} {rest l r K : List (Addr × Obj)} (S : Sel q l r) (h : Split rest r K) : ∀ p ∈ q :: (K ++ rest), p ∈ l := by
  intro p hp
  rcases List.mem_cons.mp hp with e | hp
  · exact S.sub p (e ▸ List.mem_cons_self)
  · exact S.sub p (List.mem_cons_of_mem _ (h.sub p hp))
section
set_option maxRecDepth 100000 in
set_option maxHeartbeats 8000000 in
theorem bound2_spec {w : World} {mean : ExcName → Option Value} {mg mb : Str → Option Value} {dp un : Nat} {gd : Option (List Code)} {cn : Str} {cs : Scope} {a : Addr} {ccd : Value} {cl : List (Str × Addr)} {outer : List Env} {A₀ : Around} {base h₀ : Heap} {L : Addr} {m : Str → Option Value} {s : Shared} {Q E : Value → Shared → Prop} {rest l : List (Addr × Obj)} {src : Addr} {x y : Int} {tx ty : Tok} {n : Nat} (B : Below A₀ base outer h₀) (F : Fr h₀ L s.heap m) (X : Frag.In (KF w.params) h₀) (N : News h₀ L s.heap (l)) (T : Top VW (looseW VW LOOSE) mean mg mb h₀) (hk : cs.kind = .function)
    (S : Sel (src, listOf #[.int x tx, .int y ty] n) l rest) (hap : ∀ p ∈ rest, p.1 ≠ src) (hx : 0 ≤ x) (hy : 0 ≤ y) (hy2 : y < 2147483647) (hd : dp < 480) (hu : un < 1800)
    (ret : ∀ b K x' y' tx' ty' n' h' tk', 0 ≤ x' → 0 ≤ y' → y' < 2147483647 → Fr h₀ L h' m → News h₀ L h' ((src, listOf #[.int x' tx', .int y' ty'] n') :: (K ++ rest)) → (∀ p ∈ K, ∀ q ∈ rest, q.1 ≠ p.1) → (∀ p ∈ K, p.1 ≠ src) → BoundIn w K b → Q b { s with heap := h', toks := tk' }) :
    wpAny (model PySem.Challenge.rw_nt0116_01.row.prog w) (ktrTop dp un gd cn cs L a ccd cl outer) (call (.ref 689) [.ref src]) Q E s := by
  k_with_none
  k_with "exec Assign cons ListComp" => ((k_here; lcg_look; k_dflt (refine LCg.Assign_ListComp_U (F₀ := by k_asm) (by rfl) (by with_unfolding_all rfl) (by rfl) (by decide) (by rfl) (by decide) (by rfl) (by rfl) (by rfl) ?_); k_dflt lcg_toSrc))
  k_with "CompSrc" => ((k_here; k_dflt (refine LCg.CompSrc.range (by rfl) (by k_asm) (by k_asm) (by assumption) (by exact small_one (by omega) (by omega) (by omega) (by omega)) (by exact rangeSize_nat _ _) (by rw [PySem.sizeLine_eq]; omega) ?_); intro g'; (refine' comp_len (fun ys' v' I' oI' C' oC' D' m' h' tk' E' hC' hx' F' N' off' ne' => ?_) (fun ys' hys' => ?_))))
  k_with "CompEnd" => ((refine LCg.CompEnd.intro (by assumption) (by assumption) _ (by kcf_all) (by assumption) (by lcg_src) rfl))
  k_with "call ref" => ((k_here; (with_reducible show wpAny _ _ (call (Value.ref 95) [_]) _ _ _); k_dflt (refine' new_Literal ?B ?F ?X ?N ?T ?K ?dd ?uu ?_; (case B => k_asm); (case F => k_asm); (case X => k_asm); (case N => k_asm); (case T => k_asm); (case K => first | exact rfl | assumption); (case dd => ktr_room); (case uu => ktr_units); k_whole); intro x' dx'  h' tk' t0' l1' l2' F' N';  (try simp only [AllLt, and_true] at l1');  (try replace l2' := ltN l2'); (try k_sweep); (try dsimp only); (try k_fold)))
  k_with "call ref" => ((k_here; (with_reducible show wpAny _ _ (call (Value.ref 417) [_, _, _, _, _]) _ _ _); k_dflt (refine' new_Bound ?B ?F ?X ?N ?T ?K ?dd ?uu ?_; (case B => k_asm); (case F => k_asm); (case X => k_asm); (case N => k_asm); (case T => k_asm); (case K => first | exact rfl | assumption); (case dd => ktr_room); (case uu => ktr_units); k_whole); intro x' dx'  h' tk' t0' t1' t2' t3' t4' l1' l2' F' N';  (try simp only [AllLt, and_true] at l1');  (try replace l2' := ltN l2'); (try k_sweep); (try dsimp only); (try k_fold)))
  k_with "call ref" => ((k_here; (with_reducible show wpAny _ _ (call (Value.ref 677) _) _ _ _); k_dflt (refine' take_at ?B ?F ?X ?N ?T ?K ?S ?hap ?t1 ?t2 ?x ?y ?y2 ?dd ?uu ?_; (case B => k_asm); (case F => k_asm); (case X => k_asm); (case N => k_asm); (case T => k_asm); (case K => first | exact rfl | assumption); (case S => repeat' (first | exact Sel.head | refine' Sel.tail ?_)); (case hap => k_all); (case t1 => omega); (case t2 => omega); (case x => assumption); (case y => assumption); (case y2 => assumption); (case dd => ktr_room); (case uu => ktr_units); k_whole); intro d' td' x' tx' y' ty' n' h' tk' d0' d1' x0' y0' y1' F' N'; (try k_sweep); skip; (all_goals (try dsimp only)); (all_goals (try k_fold))))
  k_with "call ref" => ((k_here; (with_reducible show wpAny _ _ (call (Value.ref 684) _) _ _ _); k_dflt (refine' one_spec ?B ?F ?X ?N ?T ?K ?S ?hap ?th ?t1 ?t2 ?x ?y ?y2 ?dd ?uu ?_; (case B => k_asm); (case F => k_asm); (case X => k_asm); (case N => k_asm); (case T => k_asm); (case K => first | exact rfl | assumption); (case S => repeat' (first | exact Sel.head | refine' Sel.tail ?_)); (case hap => k_all); (case th => k_mem); (case t1 => (try simp only [List.length_cons, List.length_nil]); omega); (case t2 => (try simp only [List.length_cons, List.length_nil]); omega); (case x => assumption); (case y => assumption); (case y2 => assumption); (case dd => ktr_room); (case uu => ktr_units); k_whole); intro v' x' tx' y' ty' n' h' tk' hv' x0' y0' y1' F' N'; (try k_sweep); ((have e3 := op_of hv'); (obtain ⟨op', ot', e', ho'⟩ := e3); clear hv'; subst e'); (try dsimp only); (try k_fold)))
  replace N := news_sub N S.sub
  clear S
  refine wpAny_call ?_
  k_dflt ktr_enter
  k_steps
  all_goals (rename News _ _ _ _ => kN; refine' ret _ _ _ _ _ _ _ _ _ ?_ ?_ ?_ ?f9 (news_sub kN (split_news (r := _) ?g9 ?sp)) (Split.ne ?sp2) ?o9 ?h9; (case f9 => k_asm); (case g9 => repeat' (first | exact Sel.head | refine' Sel.tail ?_)); (case sp => repeat' (first | exact Split.nil | refine' Split.cons (by first | k_all | exact allLt_trans2 (by assumption) (by first | assumption | exact allLt_of (by assumption) | exact And.right (by assumption) | exact And.right (And.right (by assumption)) | exact And.right (And.right (And.right (by assumption))) | exact And.right (And.right (And.right (And.right (by assumption)))) | exact And.right (And.right (And.right (And.right (And.right (by assumption))))) | exact And.right (And.right (And.right (And.right (And.right (And.right (by assumption)))))) | exact And.right (And.right (And.right (And.right (And.right (And.right (And.right (by assumption))))))) | exact And.right (And.right (And.right (And.right (And.right (And.right (And.right (And.right (by assumption)))))))) | exact And.right (And.right (And.right (And.right (And.right (And.right (And.right (And.right (And.right (by assumption)))))))))) | exact off1_ne (by assumption) | exact off1_ne (And.right (by assumption)) | exact off1_ne (And.right (And.right (by assumption))) | exact off1_ne (And.right (And.right (And.right (by assumption)))) | exact off1_ne (And.right (And.right (And.right (And.right (by assumption))))) | exact off1_ne (And.right (And.right (And.right (And.right (And.right (by assumption)))))) | exact off1_ne (And.right (And.right (And.right (And.right (And.right (And.right (by assumption))))))) | exact off1_ne (And.right (And.right (And.right (And.right (And.right (And.right (And.right (by assumption)))))))) | exact off1_ne (And.right (And.right (And.right (And.right (And.right (And.right (And.right (And.right (by assumption))))))))) | exact off1_ne (And.right (And.right (And.right (And.right (And.right (And.right (And.right (And.right (And.right (by assumption))))))))))) ?_)); (case sp2 => repeat' (first | exact Split.nil | refine' Split.cons (by first | k_all | exact allLt_trans2 (by assumption) (by first | assumption | exact allLt_of (by assumption) | exact And.right (by assumption) | exact And.right (And.right (by assumption)) | exact And.right (And.right (And.right (by assumption))) | exact And.right (And.right (And.right (And.right (by assumption)))) | exact And.right (And.right (And.right (And.right (And.right (by assumption))))) | exact And.right (And.right (And.right (And.right (And.right (And.right (by assumption)))))) | exact And.right (And.right (And.right (And.right (And.right (And.right (And.right (by assumption))))))) | exact And.right (And.right (And.right (And.right (And.right (And.right (And.right (And.right (by assumption)))))))) | exact And.right (And.right (And.right (And.right (And.right (And.right (And.right (And.right (And.right (by assumption)))))))))) | exact off1_ne (by assumption) | exact off1_ne (And.right (by assumption)) | exact off1_ne (And.right (And.right (by assumption))) | exact off1_ne (And.right (And.right (And.right (by assumption)))) | exact off1_ne (And.right (And.right (And.right (And.right (by assumption))))) | exact off1_ne (And.right (And.right (And.right (And.right (And.right (by assumption)))))) | exact off1_ne (And.right (And.right (And.right (And.right (And.right (And.right (by assumption))))))) | exact off1_ne (And.right (And.right (And.right (And.right (And.right (And.right (And.right (by assumption)))))))) | exact off1_ne (And.right (And.right (And.right (And.right (And.right (And.right (And.right (And.right (by assumption))))))))) | exact off1_ne (And.right (And.right (And.right (And.right (And.right (And.right (And.right (And.right (And.right (by assumption))))))))))) ?_)); (case o9 => k_all); (case h9 => refine' ⟨_, _, _, _, _, _, _, _, _, _, _, _, _, rfl, by assumption, ?v9, by k_mem, by k_mem⟩; (case v9 => first | exact .inl ⟨op_nf (by assumption), _, _, _, _, _, rfl, by k_mem, by k_mem⟩ | exact .inl ⟨op_ne (by assumption), _, _, _, _, _, rfl, by k_mem, by k_mem⟩ | exact .inr ⟨op_eq (by assumption), _, _, _, rfl, by k_mem, by omega, by omega⟩)); all_goals assumption)
end
end
section
noncomputable abbrev tableD (w : World) (v0 v1 v2 v3 : Value) (e0 e1 e2 : Addr) (t0 t1 t2 t3 t4 t5 t6 t7 : Tok) : Obj := dictOf [⟨PyData.keyHash w.params (Str.ofString "name"), .str (Str.ofString "name") t0, v0⟩, ⟨PyData.keyHash w.params (Str.ofString "root"), .str (Str.ofString "root") t1, v1⟩, ⟨PyData.keyHash w.params (Str.ofString "columns"), .str (Str.ofString "columns") t2, v2⟩, ⟨PyData.keyHash w.params (Str.ofString "rowid_place"), .str (Str.ofString "rowid_place") t3, .none⟩, ⟨PyData.keyHash w.params (Str.ofString "indexes"), .str (Str.ofString "indexes") t4, .ref e0⟩, ⟨PyData.keyHash w.params (Str.ofString "checks"), .str (Str.ofString "checks") t5, .ref e1⟩, ⟨PyData.keyHash w.params (Str.ofString "sql"), .str (Str.ofString "sql") t6, v3⟩, ⟨PyData.keyHash w.params (Str.ofString "primary"), .str (Str.ofString "primary") t7, .ref e2⟩] 8
def TableIn (w : World) (news : List (Addr × Obj)) (tb : Addr) : Prop := ∃ (dt : Addr) (v0 v1 v2 v3 : Value) (e0 e1 e2 : Addr) (t0 t1 t2 t3 t4 t5 t6 t7 : Tok), (tb, instObj 659 dt) ∈ news ∧ (dt, tableD w v0 v1 v2 v3 e0 e1 e2 t0 t1 t2 t3 t4 t5 t6 t7) ∈ news
theorem TableIn.mono {w : World} {l l' : List (Addr × Obj)} {tb : Addr} (h : TableIn w l tb) (hs : ∀ p ∈ l, p ∈ l') : TableIn w l' tb := by
  obtain ⟨dt, v0, v1, v2, v3, e0, e1, e2, t0, t1, t2, t3, t4, t5, t6, t7, h1, h2⟩ := h
  exact ⟨dt, v0, v1, v2, v3, e0, e1, e2, t0, t1, t2, t3, t4, t5, t6, t7, hs _ h1, hs _ h2⟩
def Sub (R l : List (Addr × Obj)) : Prop := ∀ p ∈ R, p ∈ l
theorem Sub.at {R l : List (Addr × Obj)} (h : Sub R l) : ∀ p ∈ R, p ∈ l := h
/-- nothing, or a bound of one of these kinds -/
def FB (w : World) (R : List (Addr × Obj)) (v : Value) (b : Bool) (ys : List PySem.Str) : Prop := (b = false ∧ v = .none) ∨ (b = true ∧ ∃ op, BoundAt w R v op ∧ op ∈ ys)
theorem FB.elim {w : World} {R : List (Addr × Obj)} {v : Value} {b : Bool} {ys : List PySem.Str} (h : FB w R v b ys) : (b = false ∧ v = .none) ∨ (b = true ∧ ∃ op, BoundAt w R v op ∧ op ∈ ys) := h
set_option maxRecDepth 100000 in
set_option maxHeartbeats 8000000 in
theorem isrow_spec {w : World} {mean : ExcName → Option Value} {mg mb : Str → Option Value} {dp un : Nat} {gd : Option (List Code)} {cn : Str} {cs : Scope} {a : Addr} {ccd : Value} {cl : List (Str × Addr)} {outer : List Env} {A₀ : Around} {base h₀ : Heap} {L : Addr} {m : Str → Option Value} {s : Shared} {Q E : Value → Shared → Prop} {news : List (Addr × Obj)} {tb : Addr} {place : Int} {tp : Tok} (B : Below A₀ base outer h₀) (F : Fr h₀ L s.heap m) (X : Frag.In (KF w.params) h₀) (N : News h₀ L s.heap (news)) (T : Top VW (looseW VW LOOSE) mean mg mb h₀) (hk : cs.kind = .function)
    (hT : TableIn w news tb) (hd : dp < 500) (hu : un < 2000)
    (ret : ∀ b h' tk', b = decide (place < 0) → Fr h₀ L h' m → News h₀ L h' news → Q (.bool b) { s with heap := h', toks := tk' }) :
    wpAny (model PySem.Challenge.rw_nt0116_01.row.prog w) (ktrTop dp un gd cn cs L a ccd cl outer) (call (.ref 428) [.int place tp, .ref tb]) Q E s := by
  k_with_none
  obtain ⟨dt, v0, v1, v2, v3, e0, e1, e2, t0, t1, t2, t3, t4, t5, t6, t7, hm1, hm2⟩ := hT
  refine wpAny_call ?_
  k_dflt ktr_enter
  k_steps
  all_goals (refine' ret _ _ _ ?_ ?f9 ?g9; (case f9 => k_asm); (case g9 => k_asm); first | rfl | exact (decide_eq_false (by assumption)).symm | exact (decide_eq_true (by assumption)).symm)
theorem any_mem {op : PySem.Str} {ys : List PySem.Str} (h : ys.any (· == op) = true) : op ∈ ys := by
  obtain ⟨y, hy, e⟩ := List.any_eq_true.mp h
  exact eq_of_beq e ▸ hy
section
set_option maxRecDepth 100000 in
set_option maxHeartbeats 8000000 in
theorem first_spec {w : World} {mean : ExcName → Option Value} {mg mb : Str → Option Value} {dp un : Nat} {gd : Option (List Code)} {cn : Str} {cs : Scope} {a : Addr} {ccd : Value} {cl : List (Str × Addr)} {outer : List Env} {A₀ : Around} {base h₀ : Heap} {L : Addr} {m : Str → Option Value} {s : Shared} {Q E : Value → Shared → Prop} {R news : List (Addr × Obj)} {lb f o tb : Addr} {vs vo : List Value} {ys : List PySem.Str} {n nf no : Nat} {place : Int} {tp : Tok} {r : Bool} {coll : Value} (B : Below A₀ base outer h₀) (F : Fr h₀ L s.heap m) (X : Frag.In (KF w.params) h₀) (N : News h₀ L s.heap (news)) (T : Top VW (looseW VW LOOSE) mean mg mb h₀) (hk : cs.kind = .function)
    (hlb : (lb, listOf vs.toArray n) ∈ news) (hR : Sub R news) (hbs : ∀ v, v ∈ vs → BoundIn w R v)
    (hf : (f, ({ cls := .type "tuple", data := .seq #[.int place tp, .bool r, coll, .ref tb] nf } : Obj)) ∈ news) (hc : coll = .none ∨ ∃ t, coll = .str (Str.ofString "binary") t)
    (hT : TableIn w news tb) (ho : (o, ({ cls := .type "tuple", data := .seq vo.toArray no } : Obj)) ∈ news) (hy : StrsAre vo.toArray.toList ys) (hd : dp < 480) (hu : un < 1800)
    (ret : ∀ v b h' tk', FB w R v b ys → Fr h₀ L h' m → News h₀ L h' news → Q v { s with heap := h', toks := tk' }) :
    wpAny (model PySem.Challenge.rw_nt0116_01.row.prog w) (ktrTop dp un gd cn cs L a ccd cl outer) (call (.ref 485) [.ref lb, .ref f, .ref o]) Q E s := by
  k_with_none
  k_with "call ref" => ((k_here; (with_reducible show wpAny _ _ (call (Value.ref 428) _) _ _ _); k_dflt (refine' isrow_spec ?B ?F ?X ?N ?T ?K ?hT ?dd ?uu ?_; (case B => k_asm); (case F => k_asm); (case X => k_asm); (case N => k_asm); (case T => k_asm); (case K => first | exact rfl | assumption); (case hT => first | assumption | exact TableIn.mono (by assumption) (by kcf_all)); (case dd => ktr_room); (case uu => ktr_units); k_whole); intro b' h' tk' hb' F' N'; (try k_sweep); (try dsimp only); (try k_fold)))
  k_with "compareOp In str ref" => ((k_here; k_dflt (refine' in_tuple_strs ?t ?i ?_; (case t => exact News.isTup (by k_asm) (by k_mem)); (case i => assumption); k_whole)))
  k_with "exec For Name Name cons nil" => ((k_here; (rename Fr _ _ _ _ => lF'); (with_unfolding_all refine' For_invVF lF' ?k1 ?k2 ?_; (case k1 => exact rfl); (case k2 => exact rfl); k_whole)))
  k_with "pyIter ref" => ((k_here; (with_reducible show wpAny _ _ (pyIter (Value.ref _)) (fun it s₂ => LoopAtV _ _ _ _ _ _ _ _ _ it s₂) _ _); (rename Fr _ _ _ _ => lF'); (rename (∀ v, v ∈ _ → BoundIn _ _ v) => hbs'); (rename Sub _ _ => hR'); (with_unfolding_all refine' list_keep [Str.ofString "is_here"] (by rfl) lF' ?N ?hm (fun v' u' it' I' h' tk' hv' hit' l1' F' N' => ?_) (fun u' h' tk' F' N' => ?_)); (case N => k_asm); (case hm => k_mem); (first | (obtain ⟨op', x', dx', pl', bv', t0', t1', t2', t3', t4', tp', to', tc', e', ho', hvo', hm1', hm2'⟩ := hbs' v' hv'; subst e'; (have hn1' := hR' _ hm1'); (have hn2' := hR' _ hm2')) | skip); (all_goals (try k_fold))))
  k_with "UnrEnd" => ((refine UnrEnd.intro (by assumption) (by assumption) _ (by kcf_all) (allLt_ne (allLt_of (by assumption))) ⟨rfl, ?_⟩; intro z h1 h2; (have h3 : z ≠ Str.ofString "is_here" := (fun e => by rw [e] at h2; revert h2; decide)); simp only [if_neg h1, if_neg h3, h2, Bool.false_eq_true, if_false]))
  rcases hc with rfl | ⟨tc, rfl⟩
  all_goals (
    refine wpAny_call ?_
    k_dflt ktr_enter
    k_steps)
  all_goals (rename News _ _ _ _ => kN; (first | refine' ret .none false _ _ (Or.inl ⟨rfl, rfl⟩) ?f9 (news_sub kN ?g9) | (refine' ret _ true _ _ (Or.inr ⟨rfl, ?r9⟩) ?f9 (news_sub kN ?g9); (case r9 => exact ⟨_, ⟨_, _, _, _, _, _, _, _, _, _, _, _, rfl, by assumption, by assumption, by assumption, by assumption⟩, any_mem (by assumption)⟩))); (case f9 => k_asm); (case g9 => kcf_all))
end
end
section
noncomputable abbrev pathD (w : World) (kd ix : Value) (e0 e1 : Addr) (lo hi la ha il ia cv ds sg rw co : Value) (t0 t1 t2 t3 t4 t5 t6 t7 t8 t9 t10 t11 t12 t13 t14 : Tok) : Obj := dictOf [⟨PyData.keyHash w.params (Str.ofString "kind"), .str (Str.ofString "kind") t0, kd⟩, ⟨PyData.keyHash w.params (Str.ofString "index"), .str (Str.ofString "index") t1, ix⟩, ⟨PyData.keyHash w.params (Str.ofString "equals"), .str (Str.ofString "equals") t2, .ref e0⟩, ⟨PyData.keyHash w.params (Str.ofString "equal_affinities"), .str (Str.ofString "equal_affinities") t3, .ref e1⟩, ⟨PyData.keyHash w.params (Str.ofString "low"), .str (Str.ofString "low") t4, lo⟩, ⟨PyData.keyHash w.params (Str.ofString "high"), .str (Str.ofString "high") t5, hi⟩, ⟨PyData.keyHash w.params (Str.ofString "low_affinity"), .str (Str.ofString "low_affinity") t6, la⟩, ⟨PyData.keyHash w.params (Str.ofString "high_affinity"), .str (Str.ofString "high_affinity") t7, ha⟩, ⟨PyData.keyHash w.params (Str.ofString "in_list"), .str (Str.ofString "in_list") t8, il⟩, ⟨PyData.keyHash w.params (Str.ofString "in_affinity"), .str (Str.ofString "in_affinity") t9, ia⟩, ⟨PyData.keyHash w.params (Str.ofString "covering"), .str (Str.ofString "covering") t10, cv⟩, ⟨PyData.keyHash w.params (Str.ofString "descending"), .str (Str.ofString "descending") t11, ds⟩, ⟨PyData.keyHash w.params (Str.ofString "is_single"), .str (Str.ofString "is_single") t12, sg⟩, ⟨PyData.keyHash w.params (Str.ofString "rows"), .str (Str.ofString "rows") t13, rw⟩, ⟨PyData.keyHash w.params (Str.ofString "cost"), .str (Str.ofString "cost") t14, co⟩] 15
section
theorem ValOk.ref {w : World} {news : List (Addr × Obj)} {op : PySem.Str} {v : Value} (h : ValOk w news op v) : ∃ r, v = .ref r := by
  rcases h with ⟨_, l, _, _, _, _, e, _⟩ | ⟨_, l, _, _, e, _⟩
  · exact ⟨l, e⟩
  · exact ⟨l, e⟩
def HeadInv (news : List (Addr × Obj)) (e0 e1 p dp : Addr) (d : Obj) (i : Nat) (nw : List (Addr × Obj)) : Prop :=
  ∃ (es ea : List Value) (k0 k1 : Nat), nw = (e1, listOf ea.toArray k1) :: (e0, listOf es.toArray k0) :: (p, instObj 474 dp) :: (dp, d) :: news ∧ es.length = i ∧ ea.length = i
theorem HeadInv.mem {news : List (Addr × Obj)} {e0 e1 p dp : Addr} {d : Obj} {i : Nat} {nw : List (Addr × Obj)} {q : Addr × Obj} (h : HeadInv news e0 e1 p dp d i nw) (hq : q ∈ news) : q ∈ nw := by
  obtain ⟨es, ea, k0, k1, rfl, _⟩ := h
  exact List.mem_cons_of_mem _ (List.mem_cons_of_mem _ (List.mem_cons_of_mem _ (List.mem_cons_of_mem _ hq)))
set_option maxRecDepth 100000 in
set_option maxHeartbeats 8000000 in
theorem newpath_spec {w : World} {mean : ExcName → Option Value} {mg mb : Str → Option Value} {dp un : Nat} {gd : Option (List Code)} {cn : Str} {cs : Scope} {a : Addr} {ccd : Value} {cl : List (Str × Addr)} {outer : List Env} {A₀ : Around} {base h₀ : Heap} {L : Addr} {m : Str → Option Value} {s : Shared} {Q E : Value → Shared → Prop} {R news : List (Addr × Obj)} {hb : Addr} {hs : List Value} {n : Nat} {ix : Value} {cov : Bool} (B : Below A₀ base outer h₀) (F : Fr h₀ L s.heap m) (X : Frag.In (KF w.params) h₀) (N : News h₀ L s.heap (news)) (T : Top VW (looseW VW LOOSE) mean mg mb h₀) (hk : cs.kind = .function)
    (hhb : (hb, listOf hs.toArray n) ∈ news) (hR : Sub R news) (hbs : ∀ v, v ∈ hs → BoundIn w R v) (hl : hs.length ≤ 3) (hd : dp < 480) (hu : un < 1800)
    (ret : ∀ (p dq e0 e1 : Addr) (es ea : List Value) (k0 k1 : Nat) (tk tr tc t0 t1 t2 t3 t4 t5 t6 t7 t8 t9 t10 t11 t12 t13 t14 : Tok) (h' : Heap) (tk' : Nat), es.length = hs.length → AllLt dq news → dq < p → p < e0 → e0 < e1 → Fr h₀ L h' m →
      News h₀ L h' ((e1, listOf ea.toArray k1) :: (e0, listOf es.toArray k0) :: (p, instObj 474 dq) :: (dq, pathD w (.str (Str.ofString "index") tk) ix e0 e1 .none .none .none .none .none .none (.bool cov) (.bool false) (.bool false) (.int 1000 tr) (.int 2000 tc) t0 t1 t2 t3 t4 t5 t6 t7 t8 t9 t10 t11 t12 t13 t14) :: news) → Q (.ref p) { s with heap := h', toks := tk' }) :
    wpAny (model PySem.Challenge.rw_nt0116_01.row.prog w) (ktrTop dp un gd cn cs L a ccd cl outer) (call (.ref 539) [ix, .ref hb, .bool cov]) Q E s := by
  k_with_none
  k_with "call ref" => ((k_here; (with_reducible show wpAny _ _ (call (Value.ref 474) [_, _]) _ _ _); k_dflt (refine' new_Path ?B ?F ?X ?N ?T ?K ?dd ?uu ?_; (case B => k_asm); (case F => k_asm); (case X => k_asm); (case N => k_asm); (case T => k_asm); (case K => first | exact rfl | assumption); (case dd => ktr_room); (case uu => ktr_units); k_whole); intro x' dx' e0' e1' h' tk' t0' t1' t2' t3' t4' t5' t6' t7' t8' t9' t10' t11' t12' t13' t14' t15' t16' l1' l2' l3' l4' F' N'; (have a2' := allLt_trans l1' l2'); (have a3' := allLt_trans a2' l3'); (have a4' := allLt_trans a3' l4'); (try simp only [AllLt, and_true] at l1'); (try simp only [AllLt, and_true] at a2'); (try simp only [AllLt, and_true] at a3'); (try simp only [AllLt, and_true] at a4'); (try replace l2' := ltN l2'); (try replace l3' := ltN l3'); (try replace l4' := ltN l4'); (try k_sweep); (try dsimp only); (try k_fold)))
  k_with "exec For Name Name cons nil" => ((k_here; (rename Fr _ _ _ _ => lF'); (with_unfolding_all refine' For_invVF lF' ?k1 ?k2 ?_; (case k1 => exact rfl); (case k2 => exact rfl); k_whole)))
  k_with "call builtin:list.append" => ((k_here; (with_reducible show wpAny _ _ (call (Value.builtin _) [Value.ref _, _]) _ _ _); k_dflt (refine' append_led ?k1 ?k2 ?k3 ?z ?_; (case k1 => k_asm); (case k2 => k_asm); (case k3 => k_upd); (case z => omega); k_whole); intro h' F' N'; (try k_sweep)))
  k_with "pyIter ref" => ((k_here; (with_reducible show wpAny _ _ (pyIter (Value.ref _)) (fun it s₂ => LoopAtV _ _ _ _ _ _ _ _ _ it s₂) _ _); (rename Fr _ _ _ _ => lF'); (rename News _ _ _ _ => lN'); (rename (∀ v, v ∈ _ → BoundIn _ _ v) => hbs'); (rename Sub _ _ => hR'); (with_unfolding_all refine' list_state [] (HeadInv _ _ _ _ _ _) (by rfl) lF' lN' ⟨[], [], _, _, rfl, rfl, rfl⟩ (fun i nw hi => hi.mem (by assumption)) (fun i' v' u' nw' it' I' h' tk' hv' hJ' hit' hoff' hI' F' N' => ?_) (fun u' nw' h' tk' hJ' F' N' => ?_)); (try k_lt hI'); (all_goals (obtain ⟨es', ea', k0', k1', e', hes', hea'⟩ := hJ'; subst e')); (first | ((have hv2' := List.mem_of_getElem? hv'); (have hv3' := (List.getElem?_eq_some_iff.mp hv').1); (obtain ⟨op', x', dx', pl', bv', t0', t1', t2', t3', t4', tp', to', tc', e', ho', hvo', hm1', hm2'⟩ := hbs' v' hv2'; subst e'; (have hn1' := hR' _ hm1'); (have hn2' := hR' _ hm2'); (have er2' := hvo'.ref); (obtain ⟨r', er'⟩ := er2'); subst er')) | skip); (all_goals (try k_fold))))
  k_with "UnrEnd" => ((refine UnrEnd.intro (by assumption) (by assumption) _ (fun p hp => hp) (by k_all) ⟨⟨_, _, _, _, rfl, by simp only [List.length_append, List.length_cons, List.length_nil]; omega, by simp only [List.length_append, List.length_cons, List.length_nil]; omega⟩, ?_⟩; intro z h1 h2; simp only [if_neg h1, h2, Bool.false_eq_true, if_false]))
  refine wpAny_call ?_
  k_dflt ktr_enter
  k_steps
  all_goals (refine' ret _ _ _ _ _ _ _ _ _ _ _ _ _ _ _ _ _ _ _ _ _ _ _ _ _ _ _ _ ?_ ?_ ?_ ?_ ?_ ?f9 ?g9; (case f9 => k_asm); (case g9 => k_asm); all_goals assumption)
end
end
section
def Flag (v : Value) (b : Bool) : Prop := (b = false ∧ v = .none) ∨ (b = true ∧ ∃ a, v = .ref a)
def Bnd (w : World) (news : List (Addr × Obj)) (v : Value) (b : Bool) : Prop := (b = false ∧ v = .none) ∨ (b = true ∧ BoundIn w news v)
section
set_option maxRecDepth 100000 in
set_option maxHeartbeats 8000000 in
theorem range_spec {w : World} {mean : ExcName → Option Value} {mg mb : Str → Option Value} {dp un : Nat} {gd : Option (List Code)} {cn : Str} {cs : Scope} {a : Addr} {ccd : Value} {cl : List (Str × Addr)} {outer : List Env} {A₀ : Around} {base h₀ : Heap} {L : Addr} {m : Str → Option Value} {s : Shared} {Q E : Value → Shared → Prop} {rest : List (Addr × Obj)} {p dq e0 e1 : Addr} {kd ix la ha il ia cv ds sg rw co low high : Value} {bl bh : Bool} {t0 t1 t2 t3 t4 t5 t6 t7 t8 t9 t10 t11 t12 t13 t14 : Tok} (B : Below A₀ base outer h₀) (F : Fr h₀ L s.heap m) (X : Frag.In (KF w.params) h₀) (N : News h₀ L s.heap ((dq, pathD w kd ix e0 e1 .none .none la ha il ia cv ds sg rw co t0 t1 t2 t3 t4 t5 t6 t7 t8 t9 t10 t11 t12 t13 t14) :: rest)) (T : Top VW (looseW VW LOOSE) mean mg mb h₀) (hk : cs.kind = .function)
    (hp : (p, instObj 474 dq) ∈ rest) (hap : ∀ q ∈ rest, q.1 ≠ dq) (hlow : Bnd w rest low bl) (hhigh : Bnd w rest high bh) (hd : dp < 480) (hu : un < 1800)
    (ret : ∀ (rest' : List (Addr × Obj)) (lo hi la' ha' : Value) (h' : Heap) (tk' : Nat), (∀ q ∈ rest, q ∈ rest') → (∀ q ∈ rest', q.1 ≠ dq) → Flag lo bl → Flag hi bh → Fr h₀ L h' m →
      News h₀ L h' ((dq, pathD w kd ix e0 e1 lo hi la' ha' il ia cv ds sg rw co t0 t1 t2 t3 t4 t5 t6 t7 t8 t9 t10 t11 t12 t13 t14) :: rest') → Q .none { s with heap := h', toks := tk' }) :
    wpAny (model PySem.Challenge.rw_nt0116_01.row.prog w) (ktrTop dp un gd cn cs L a ccd cl outer) (call (.ref 506) [.ref p, low, high]) Q E s := by
  k_with_none
  rcases hlow with ⟨rfl, rfl⟩ | ⟨rfl, op1, x1, dx1, pl1, v1, a0, a1, a2, a3, a4, ap, ao, ac, rfl, ho1, hv1, hm1, hm2⟩ <;> rcases hhigh with ⟨rfl, rfl⟩ | ⟨rfl, op2, x2, dx2, pl2, v2, b0, b1, b2, b3, b4, bp, bo, bc, rfl, ho2, hv2, hm3, hm4⟩
  all_goals (try (obtain ⟨r1, er1⟩ := hv1.ref; subst er1))
  all_goals (try (obtain ⟨r2, er2⟩ := hv2.ref; subst er2))
  all_goals (
    refine wpAny_call ?_
    k_dflt ktr_enter
    k_steps)
  all_goals (rename News _ _ _ _ => kN; refine' ret _ _ _ _ _ _ _ ?s9 ?o9 ?l9 ?h9 ?f9 (news_sub kN (Sel.sub (r := _) ?g9)); (case f9 => k_asm); (case g9 => repeat' (first | exact Sel.head | refine' Sel.tail ?_)); (case s9 => exact fun p hp => by (repeat (first | exact hp | refine List.mem_cons_of_mem _ ?_))); (case o9 => k_all); (case l9 => first | exact .inl ⟨rfl, rfl⟩ | exact .inr ⟨rfl, _, rfl⟩); (case h9 => first | exact .inl ⟨rfl, rfl⟩ | exact .inr ⟨rfl, _, rfl⟩))
end
end
section
section
set_option maxRecDepth 100000 in
set_option maxHeartbeats 8000000 in
theorem list_spec {w : World} {mean : ExcName → Option Value} {mg mb : Str → Option Value} {dp un : Nat} {gd : Option (List Code)} {cn : Str} {cs : Scope} {a : Addr} {ccd : Value} {cl : List (Str × Addr)} {outer : List Env} {A₀ : Around} {base h₀ : Heap} {L : Addr} {m : Str → Option Value} {s : Shared} {Q E : Value → Shared → Prop} {R rest : List (Addr × Obj)} {p dq e0 e1 : Addr} {b kd ix lo hi la ha il ia cv ds sg rw co : Value} {t0 t1 t2 t3 t4 t5 t6 t7 t8 t9 t10 t11 t12 t13 t14 : Tok} (B : Below A₀ base outer h₀) (F : Fr h₀ L s.heap m) (X : Frag.In (KF w.params) h₀) (N : News h₀ L s.heap ((dq, pathD w kd ix e0 e1 lo hi la ha il ia cv ds sg rw co t0 t1 t2 t3 t4 t5 t6 t7 t8 t9 t10 t11 t12 t13 t14) :: rest)) (T : Top VW (looseW VW LOOSE) mean mg mb h₀) (hk : cs.kind = .function)
    (hp : (p, instObj 474 dq) ∈ rest) (hap : ∀ q ∈ rest, q.1 ≠ dq) (hR : Sub R rest) (hb : BoundAt w R b (Str.ofString "in")) (hd : dp < 480) (hu : un < 1800)
    (ret : ∀ (rest' : List (Addr × Obj)) (lv : Addr) (vs : List Value) (n : Nat) (ia' : Value) (h' : Heap) (tk' : Nat), (∀ q ∈ rest, q ∈ rest') → (∀ q ∈ rest', q.1 ≠ dq) → (lv, listOf vs.toArray n) ∈ R → 1 ≤ vs.length → vs.length ≤ 3 → Fr h₀ L h' m →
      News h₀ L h' ((dq, pathD w kd ix e0 e1 lo hi la ha (.ref lv) ia' cv ds sg rw co t0 t1 t2 t3 t4 t5 t6 t7 t8 t9 t10 t11 t12 t13 t14) :: rest') → Q .none { s with heap := h', toks := tk' }) :
    wpAny (model PySem.Challenge.rw_nt0116_01.row.prog w) (ktrTop dp un gd cn cs L a ccd cl outer) (call (.ref 499) [.ref p, b]) Q E s := by
  k_with_none
  obtain ⟨x1, dx1, pl1, v1, a0, a1, a2, a3, a4, ap, ao, ac, rfl, ho1, hv1, hm1, hm2⟩ := hb
  rcases hv1 with ⟨hne, _⟩ | ⟨_, lv, vs, n, rfl, hlv, hv3, hv4⟩
  · exact absurd rfl hne
  replace hm1 := hR _ hm1
  replace hm2 := hR _ hm2
  have hlv2 := hR _ hlv
  refine wpAny_call ?_
  k_dflt ktr_enter
  k_steps
  all_goals (rename News _ _ _ _ => kN; refine' ret _ _ _ _ _ _ _ ?s9 ?o9 hlv hv3 hv4 ?f9 (news_sub kN (Sel.sub (r := _) ?g9)); (case f9 => k_asm); (case g9 => repeat' (first | exact Sel.head | refine' Sel.tail ?_)); (case s9 => exact fun p hp => by (repeat (first | exact hp | refine List.mem_cons_of_mem _ ?_))); (case o9 => k_all))
end
end
section
section
variable {prog : Program} {w : World} {A : Around} {E : Value → Shared → Prop} {s : Shared} {h₀ : Heap} {L l b : Addr} {m : Str → Option Value} {news : List (Addr × Obj)} {vs : List Value} {n k : Nat} {Q : Value → Shared → Prop}
theorem ne_nil_led (N : News h₀ L s.heap news) (hm : (l, listOf vs.toArray n) ∈ news) (hm2 : (b, listOf #[] k) ∈ news) (hu : A.units < cLine) (h : Q (.bool (decide (vs.length ≠ 0))) s) :
    wpAny (model prog w) A (compareOp .NotEq (.ref l) (.ref b)) Q E s := by
  have hl : s.heap.IsList l vs.toArray := PySem.IsL.isList (n := n) (N _ hm).1
  have hb : s.heap.IsList b #[] := PySem.IsL.isList (n := k) (N _ hm2).1
  refine wpAny_richCompare_same_room (op := .NotEq) hl.typeIs hb.typeIs PySem.F.slot_list_ne ?_ hu
  cases vs with
  | nil => exact call_meetsIn PySem.F.slot_list_ne hl.typeIs PySem.F.entry_list_ne (PySem.F.args_list_ne_2 _ _) ((PySem.SeqAt.list_neAt l b #[] #[] n k none none #[] #[] rfl (fun _ => true)).inModel _ _) ⟨(N _ hm).1, (N _ hm2).1, (fun j h1 => absurd h1 (Nat.not_lt_zero _)), (by intro e; cases e), h⟩
  | cons v r => exact call_meetsIn PySem.F.slot_list_ne hl.typeIs PySem.F.entry_list_ne (PySem.F.args_list_ne_2 _ _) ((PySem.SeqAt.list_ne_lengthsAt l b (v :: r).toArray #[] n k none none #[] #[] (by simp)).inModel _ _) ⟨(N _ hm).1, (N _ hm2).1, (by intro e; cases e), h⟩
end
theorem q_bool {Q : Value → Shared → Prop} {b b' : Bool} {s : Shared} (e : b' = b) (h : Q (.bool b') s) : Q (.bool b) s := e ▸ h
theorem or4_a {p : Prop} [Decidable p] {b c d : Bool} (h : p) : (decide p || b || c || d) = decide p := by simp [h]
theorem or4_b {p : Prop} [Decidable p] {b c d : Bool} (g : ¬p) (h : b = true) : (decide p || b || c || d) = b := by simp [h]
theorem or4_c {p : Prop} [Decidable p] {b c d : Bool} (g : ¬p) (g2 : b = false) (h : c = true) : (decide p || b || c || d) = c := by simp [h]
theorem or4_d {p : Prop} [Decidable p] {b c d : Bool} (g : ¬p) (g2 : b = false) (g3 : c = false) : (decide p || b || c || d) = d := by simp [g, g2, g3]
theorem Flag.handed {v : Value} {b : Bool} (h : Flag v b) : handedIn v = true := by
  rcases h with ⟨_, rfl⟩ | ⟨_, a, rfl⟩ <;> rfl
theorem flag_isnot {M : Model} {A : Around} {s : Shared} {E : Value → Shared → Prop} {Q : Value → Shared → Prop} {v : Value} {b : Bool} (f : Flag v b) (h : Q (.bool b) s) : wpAny M A (compareOp .IsNot v .none) Q E s := by
  rcases f with ⟨rfl, rfl⟩ | ⟨rfl, a, rfl⟩
  · exact wpAny_isNot_self rfl h
  · exact isnot_ref_none h
theorem flag_is {M : Model} {A : Around} {s : Shared} {E : Value → Shared → Prop} {Q : Value → Shared → Prop} {v : Value} {b : Bool} (f : Flag v b) (h : Q (.bool (!b)) s) : wpAny M A (compareOp .Is v .none) Q E s := by
  rcases f with ⟨rfl, rfl⟩ | ⟨rfl, a, rfl⟩
  · exact wpAny_is_self rfl h
  · exact is_ref_none h
section
local macro_rules | `(tactic| k_handed) => `(tactic| exact Flag.handed (by assumption))
set_option maxRecDepth 100000 in
set_option maxHeartbeats 8000000 in
theorem led_spec {w : World} {mean : ExcName → Option Value} {mg mb : Str → Option Value} {dp un : Nat} {gd : Option (List Code)} {cn : Str} {cs : Scope} {a : Addr} {ccd : Value} {cl : List (Str × Addr)} {outer : List Env} {A₀ : Around} {base h₀ : Heap} {L : Addr} {m : Str → Option Value} {s : Shared} {Q E : Value → Shared → Prop} {news : List (Addr × Obj)} {p dq e0 e1 : Addr} {es : List Value} {n : Nat} {kd ix lo hi la ha il ia cv ds sg rw co : Value} {bl bh bi : Bool} {t0 t1 t2 t3 t4 t5 t6 t7 t8 t9 t10 t11 t12 t13 t14 : Tok} (B : Below A₀ base outer h₀) (F : Fr h₀ L s.heap m) (X : Frag.In (KF w.params) h₀) (N : News h₀ L s.heap (news)) (T : Top VW (looseW VW LOOSE) mean mg mb h₀) (hk : cs.kind = .function)
    (hq : (dq, pathD w kd ix e0 e1 lo hi la ha il ia cv ds sg rw co t0 t1 t2 t3 t4 t5 t6 t7 t8 t9 t10 t11 t12 t13 t14) ∈ news)
    (hp : (p, instObj 474 dq) ∈ news) (he : (e0, listOf es.toArray n) ∈ news) (hlo : Flag lo bl) (hhi : Flag hi bh) (hil : Flag il bi) (hd : dp < 480) (hu : un < 1800)
    (ret : ∀ (h' : Heap) (tk' : Nat), Fr h₀ L h' m → News h₀ L h' news → Q (.bool (decide (es.length ≠ 0) || bl || bh || bi)) { s with heap := h', toks := tk' }) :
    wpAny (model PySem.Challenge.rw_nt0116_01.row.prog w) (ktrTop dp un gd cn cs L a ccd cl outer) (call (.ref 457) [.ref p]) Q E s := by
  k_with_none
  k_with "compareOp NotEq ref ref" => ((k_here; k_dflt (refine' ne_nil_led ?k1 ?k2 ?k3 ?k4 ?_; (case k1 => k_asm); (case k2 => k_mem); (case k3 => k_mem); (case k4 => ktr_units); k_whole)))
  k_with "compareOp IsNot none" => ((k_here; k_dflt (refine' flag_isnot (b := _) ?k1 ?_; (case k1 => assumption); k_whole)))
  refine wpAny_call ?_
  k_dflt ktr_enter
  k_steps
  all_goals (refine' q_bool ?e9 (ret _ _ ?f9 ?g9); (case e9 => first | exact or4_a (by assumption) | exact or4_b (by assumption) (by assumption) | exact or4_c (by assumption) (by assumption) (by assumption) | exact or4_d (by assumption) (by assumption) (by assumption)); (case f9 => k_asm); (case g9 => rename News _ _ _ _ => kN; exact news_sub kN (fun p hp => by (repeat (first | exact hp | refine List.mem_cons_of_mem _ ?_)))))
end
end
section
section
variable {prog : Program} {w : World} {A : Around} {E : Value → Shared → Prop} {s : Shared} {env : Env} {h₀ : Heap} {x : Str} {body : List Stmt} {Q : Flow → Shared → Prop}
noncomputable def accF (y1 y2 : Str) (c1 c2 : Value) (stored : List Str) (u m₀ : Str → Option Value) (z : Str) : Option Value := if z = y1 then some c1 else if z = y2 then some c2 else if stored.contains z then u z else m₀ z
theorem accF_eq {y1 y2 : Str} {c1 c2 : Value} {stored : List Str} {m m₀ : Str → Option Value} {z : Str} (h1 : m y1 = some c1) (h2 : m y2 = some c2) (hz : z ≠ y1 → z ≠ y2 → stored.contains z = false → m z = m₀ z) :
    m z = accF y1 y2 c1 c2 stored m m₀ z := by
  unfold accF
  by_cases e1 : z = y1
  · rw [if_pos e1, e1, h1]
  · by_cases e2 : z = y2
    · rw [if_neg e1, if_pos e2, e2, h2]
    · rw [if_neg e1, if_neg e2]
      cases h3 : stored.contains z with
      | true => rfl
      | false => exact hz e1 e2 h3
theorem list_acc {ax : Addr} {vs : List Value} {n : Nat} {m₀ : Str → Option Value} {news : List (Addr × Obj)} {a1 a2 : Value} (y1 y2 : Str) (stored : List Str) (J : Nat → Value → Value → List (Addr × Obj) → Prop)
    (hh : A.handled = none) (F : Fr h₀ env.locals s.heap m₀) (N : News h₀ env.locals s.heap news) (hm1 : m₀ y1 = some a1) (hm2 : m₀ y2 = some a2) (start : J 0 a1 a2 news) (keep : ∀ i c1 c2 nw, J i c1 c2 nw → (ax, listOf vs.toArray n) ∈ nw)
    (turn : ∀ i v c1 c2 (u : Str → Option Value) nw (it : Obj) I h tk, vs[i]? = some v → J i c1 c2 nw → it.cls = .type "list_iterator" → (∀ p ∈ nw, p.1 ≠ I) → (∀ p ∈ news, p.1 < I) → Fr h₀ env.locals h (fun z => if z = x then some v else accF y1 y2 c1 c2 stored u m₀ z) → News h₀ env.locals h ((I, it) :: nw) →
      wpAny (model prog w) A (execs body env) (UnrPost h₀ env.locals { s with heap := h, toks := tk } I it (fun m' n' => (∃ c1' c2', m' y1 = some c1' ∧ m' y2 = some c2' ∧ J (i + 1) c1' c2' n') ∧ ∀ z, z ≠ x → z ≠ y1 → z ≠ y2 → stored.contains z = false → m' z = m₀ z) Q) E { s with heap := h, toks := tk })
    (done : ∀ c1 c2 (u : Str → Option Value) nw h tk, J vs.length c1 c2 nw → Fr h₀ env.locals h (fun z => if z = x then u z else accF y1 y2 c1 c2 stored u m₀ z) → News h₀ env.locals h nw → Q .next { s with heap := h, toks := tk }) :
    wpAny (model prog w) A (pyIter (.ref ax)) (fun it s₂ => LoopAtV prog w A h₀ env x body Q E it s₂) E s := by
  refine iter_listUnr (lo := listOf vs.toArray n) (vs := vs) hh F N (keep 0 _ _ _ start) rfl rfl fun I hI => ?_
  refine list_rest (fun r m nw => (∃ i c1 c2, J i c1 c2 nw ∧ r = vs.drop i ∧ i ≤ vs.length ∧ m y1 = some c1 ∧ m y2 = some c2) ∧ (∀ p ∈ nw, p.1 ≠ I) ∧ ∀ z, z ≠ x → z ≠ y1 → z ≠ y2 → stored.contains z = false → m z = m₀ z) ?_ ?_ vs m₀ news ⟨⟨0, a1, a2, start, rfl, Nat.zero_le _, hm1, hm2⟩, fun p hp => Nat.ne_of_lt (hI p hp), fun _ _ _ _ _ => rfl⟩
  · rintro v r m nw it h tk ⟨⟨i, c1, c2, hJ, hr, hi, hc1, hc2⟩, hoff, hmz⟩ hit F' N'
    have hlt : i < vs.length := by
      rcases Nat.lt_or_ge i vs.length with h1 | h1
      · exact h1
      · rw [List.drop_eq_nil_of_le h1] at hr; cases hr
    have hdrop := List.drop_eq_getElem_cons hlt
    rw [hdrop] at hr
    have hv : vs[i]? = some v := by rw [List.getElem?_eq_getElem hlt, (List.cons.inj hr).1]
    have hr2 : r = vs.drop (i + 1) := (List.cons.inj hr).2
    have e : (fun y => if y = x then some v else m y) = fun z => if z = x then some v else accF y1 y2 c1 c2 stored m m₀ z := by
      funext z
      by_cases h1 : z = x
      · simp [h1]
      · simp only [if_neg h1]
        exact accF_eq hc1 hc2 (hmz z h1)
    rw [e] at F'
    refine wpAny_mono (turn i v c1 c2 m nw it I h tk hv hJ hit hoff hI F' N') (fun f s₂ p => ?_) fun _ _ e => e
    have fin : UnrEnd h₀ env.locals { s with heap := h, toks := tk } I it (fun m' n' => (∃ c1' c2', m' y1 = some c1' ∧ m' y2 = some c2' ∧ J (i + 1) c1' c2' n') ∧ ∀ z, z ≠ x → z ≠ y1 → z ≠ y2 → stored.contains z = false → m' z = m₀ z) s₂ → UnrEnd h₀ env.locals { s with heap := h, toks := tk } I it (fun m' n' => (ax, listOf vs.toArray n) ∈ n' ∧ (∃ i c1 c2, J i c1 c2 n' ∧ r = vs.drop i ∧ i ≤ vs.length ∧ m' y1 = some c1 ∧ m' y2 = some c2) ∧ (∀ p ∈ n', p.1 ≠ I) ∧ ∀ z, z ≠ x → z ≠ y1 → z ≠ y2 → stored.contains z = false → m' z = m₀ z) s₂ := by
      rintro ⟨h2, tk2, m2, news2, e2, F2, N2, ho2, ⟨c1', c2', g1, g2, hJ2⟩, hmm⟩
      exact ⟨h2, tk2, m2, news2, e2, F2, N2, ho2, keep _ _ _ _ hJ2, ⟨i + 1, c1', c2', hJ2, hr2, hlt, g1, g2⟩, ho2, hmm⟩
    cases f with
    | ret v => exact p
    | brk => exact p
    | next => exact fin p
    | cont => exact fin p
  · rintro m nw h tk ⟨⟨i, c1, c2, hJ, hr, hi, hc1, hc2⟩, _, hmz⟩ F' N'
    have hi2 : i = vs.length := by
      rcases Nat.lt_or_ge i vs.length with h1 | h1
      · rw [List.drop_eq_getElem_cons h1] at hr; cases hr
      · omega
    subst hi2
    refine done c1 c2 m nw h tk hJ ?_ N'
    have e : (fun z => if z = x then m z else accF y1 y2 c1 c2 stored m m₀ z) = m := by
      funext z
      by_cases h1 : z = x
      · simp [h1]
      · simp only [if_neg h1]
        exact (accF_eq hc1 hc2 (hmz z h1)).symm
    rw [e]; exact F'
theorem list_num {ax : Addr} {vs : List Value} {n : Nat} {m₀ : Str → Option Value} {news : List (Addr × Obj)} {t₀ : Tok} (y : Str) (stored : List Str) (f : Nat → Int)
    (hh : A.handled = none) (F : Fr h₀ env.locals s.heap m₀) (N : News h₀ env.locals s.heap news) (hv : m₀ y = some (.int (f 0) t₀)) (hm : (ax, listOf vs.toArray n) ∈ news)
    (turn : ∀ i v t (u : Str → Option Value) (it : Obj) I h tk, vs[i]? = some v → it.cls = .type "list_iterator" → (∀ p ∈ news, p.1 < I) → Fr h₀ env.locals h (fun z => if z = x then some v else if z = y then some (.int (f i) t) else if stored.contains z then u z else m₀ z) → News h₀ env.locals h ((I, it) :: news) →
      wpAny (model prog w) A (execs body env) (UnrPost h₀ env.locals { s with heap := h, toks := tk } I it (fun m' n' => (n' = news ∧ ∃ t', m' y = some (.int (f (i + 1)) t')) ∧ ∀ z, z ≠ x → z ≠ y → stored.contains z = false → m' z = m₀ z) Q) E { s with heap := h, toks := tk })
    (done : ∀ t (u : Str → Option Value) h tk, Fr h₀ env.locals h (fun z => if z = x then u z else if z = y then some (.int (f vs.length) t) else if stored.contains z then u z else m₀ z) → News h₀ env.locals h news → Q .next { s with heap := h, toks := tk }) :
    wpAny (model prog w) A (pyIter (.ref ax)) (fun it s₂ => LoopAtV prog w A h₀ env x body Q E it s₂) E s := by
  have one : ∀ (c : Value) (u : Str → Option Value), accF y y c c stored u m₀ = fun z => if z = y then some c else if stored.contains z then u z else m₀ z := by
    intro c u; funext z; unfold accF; by_cases h : z = y <;> simp [h]
  refine list_acc y y stored (fun i c1 c2 nw => nw = news ∧ c1 = c2 ∧ ∃ t, c1 = .int (f i) t) hh F N hv hv ⟨rfl, rfl, _, rfl⟩ (fun i c1 c2 nw hi => by rw [hi.1]; exact hm) ?_ ?_
  · rintro i v c1 c2 u nw it I h tk h1 ⟨rfl, rfl, t, rfl⟩ h2 _ h3 F' N'
    rw [one] at F'
    refine wpAny_mono (turn i v t u it I h tk h1 h2 h3 F' N') (fun f' s₂ p => ?_) fun _ _ e => e
    have fin : UnrEnd h₀ env.locals { s with heap := h, toks := tk } I it (fun m' n' => (n' = nw ∧ ∃ t', m' y = some (.int (f (i + 1)) t')) ∧ ∀ z, z ≠ x → z ≠ y → stored.contains z = false → m' z = m₀ z) s₂ → UnrEnd h₀ env.locals { s with heap := h, toks := tk } I it (fun m' n' => (∃ c1' c2', m' y = some c1' ∧ m' y = some c2' ∧ n' = nw ∧ c1' = c2' ∧ ∃ t, c1' = .int (f (i + 1)) t) ∧ ∀ z, z ≠ x → z ≠ y → z ≠ y → stored.contains z = false → m' z = m₀ z) s₂ := by
      rintro ⟨h2, tk2, m2, news2, e2, F2, N2, ho2, ⟨g1, t', g2⟩, hmm⟩
      exact ⟨h2, tk2, m2, news2, e2, F2, N2, ho2, ⟨_, _, g2, g2, g1, rfl, _, rfl⟩, fun z z1 z2 _ z4 => hmm z z1 z2 z4⟩
    cases f' with
    | ret v => exact p
    | brk => exact p
    | next => exact fin p
    | cont => exact fin p
  · rintro c1 c2 u nw h tk ⟨rfl, rfl, t, rfl⟩ F' N'
    rw [one] at F'
    exact done t u h tk F' N'
/-- the end of a statement that leaves one whole number in `x` -/
def JoinEnd (h₀ : Heap) (L : Addr) (s : Shared) (x : Str) (m : Str → Option Value) (news : List (Addr × Obj)) (P : Int → Prop) (f : Flow) (s' : Shared) : Prop :=
  f = .next ∧ ∃ h tk m' r t, s' = { s with heap := h, toks := tk } ∧ Fr h₀ L h m' ∧ News h₀ L h news ∧ m' x = some (.int r t) ∧ (∀ z, z ≠ x → m' z = m z) ∧ P r
theorem join_int {M : Model} {T : Sem Flow} {L : Addr} {m : Str → Option Value} {news : List (Addr × Obj)} (x : Str) (P : Int → Prop)
    (first : wpAny M A T (JoinEnd h₀ L s x m news P) E s)
    (next : ∀ r t h tk, P r → Fr h₀ L h (fun z => if z = x then some (.int r t) else m z) → News h₀ L h news → Q .next { s with heap := h, toks := tk }) : wpAny M A T Q E s := by
  refine wpAny_mono first (fun f s' p => ?_) fun _ _ e => e
  obtain ⟨rfl, h, tk, m', r, t, rfl, F, N, hx, hz, hP⟩ := p
  have e : m' = fun z => if z = x then some (.int r t) else m z := by
    funext z
    by_cases h1 : z = x
    · rw [if_pos h1, h1, hx]
    · rw [if_neg h1]; exact hz z h1
  exact next r t h tk hP (e ▸ F) N
theorem JoinEnd.intro {L : Addr} {x : Str} {m m' : Str → Option Value} {news news' : List (Addr × Obj)} {P : Int → Prop} {h : Heap} {tk : Nat} {r : Int} {t : Tok} (F : Fr h₀ L h m') (N : News h₀ L h news') (hs : ∀ p ∈ news, p ∈ news') (hx : m' x = some (.int r t)) (hz : ∀ z, z ≠ x → m' z = m z) (hP : P r) :
    JoinEnd h₀ L s x m news P .next { s with heap := h, toks := tk } := ⟨rfl, h, tk, m', r, t, rfl, F, fun p hp => N p (hs p hp), hx, hz, hP⟩
end
end
section
noncomputable def gBase (k : Nat) : Int := ((1000 / 10 ^ k : Nat) : Int)
noncomputable def gQ (b : Bool) (r : Int) : Int := if b then r.fdiv 4 else r
noncomputable def gEnd (r : Int) (nl : Nat) (single : Bool) : Int := min ((if single then 1 else max (if nl = 0 then r else r.fdiv 10) 1) * (if nl = 0 then 1 else (nl : Int))) 1000
noncomputable def gRows (k : Nat) (bl bh : Bool) (nl : Nat) (single : Bool) : Int := gEnd (gQ bh (gQ bl (gBase k))) nl single
noncomputable def gCost (k : Nat) (bl bh : Bool) (nl : Nat) (single : Bool) (per : Int) : Int := gRows k bl bh nl single * per + (if decide (k ≠ 0) || bl || bh || decide (nl ≠ 0) then 4 * (if nl = 0 then 1 else (nl : Int)) else 0)
theorem gBase_ok (k : Nat) : 0 ≤ gBase k ∧ gBase k ≤ 1000 := by
  unfold gBase
  exact ⟨Int.natCast_nonneg _, Int.ofNat_le.mpr (Nat.div_le_self 1000 (10 ^ k))⟩
theorem gBase_next (k : Nat) : (gBase k).fdiv 10 = gBase (k + 1) := by
  unfold gBase
  rw [Int.fdiv_eq_ediv_of_nonneg _ (by decide), Nat.pow_succ, ← Nat.div_div_eq_div_mul]
  omega
theorem gQ_ok {b : Bool} {r : Int} (h : 0 ≤ r ∧ r ≤ 1000) : 0 ≤ gQ b r ∧ gQ b r ≤ 1000 := by
  unfold gQ
  split
  · rw [Int.fdiv_eq_ediv_of_nonneg _ (by decide)]; omega
  · exact h
theorem gQ_t {b : Bool} {r : Int} (h : b = true) : r.fdiv 4 = gQ b r := by simp [gQ, h]
theorem gQ_f {b : Bool} {r : Int} (h : b = false) : r = gQ b r := by simp [gQ, h]
def SingleOr (b : Bool) : Prop := b = true ∨ b = false
def FlagL (v : Value) (b : Bool) : Prop := Flag v b
def FlagH (v : Value) (b : Bool) : Prop := Flag v b
theorem FlagL.f {v : Value} {b : Bool} (h : FlagL v b) : Flag v b := h
theorem FlagH.f {v : Value} {b : Bool} (h : FlagH v b) : Flag v b := h
/-- what `in_list` holds: nothing, or a list of 1 to 3 -/
def ILen (news : List (Addr × Obj)) (v : Value) (nl : Nat) : Prop := (nl = 0 ∧ v = .none) ∨ ∃ (lv : Addr) (vs : List Value) (n : Nat), v = .ref lv ∧ (lv, listOf vs.toArray n) ∈ news ∧ vs.length = nl ∧ 1 ≤ nl ∧ nl ≤ 3
theorem ILen.flag {news : List (Addr × Obj)} {v : Value} {nl : Nat} (h : ILen news v nl) : Flag v (decide (nl ≠ 0)) := by
  rcases h with ⟨rfl, rfl⟩ | ⟨lv, _, _, rfl, _, _, h1, _⟩
  · exact .inl ⟨by simp, rfl⟩
  · exact .inr ⟨by simp; omega, lv, rfl⟩
theorem ILen.elim {news : List (Addr × Obj)} {v : Value} {nl : Nat} (h : ILen news v nl) : (nl = 0 ∧ v = .none) ∨ ∃ (lv : Addr) (vs : List Value) (n : Nat), v = .ref lv ∧ (lv, listOf vs.toArray n) ∈ news ∧ vs.length = nl ∧ 1 ≤ nl ∧ nl ≤ 3 := h
theorem SingleOr.elim {b : Bool} (h : SingleOr b) : b = true ∨ b = false := h
theorem ILen.mono {l l' : List (Addr × Obj)} {v : Value} {nl : Nat} (h : ILen l v nl) (hs : ∀ p ∈ l, p ∈ l') : ILen l' v nl := by
  rcases h with h | ⟨lv, vs, n, h1, h2, h3⟩
  · exact .inl h
  · exact .inr ⟨lv, vs, n, h1, hs _ h2, h3⟩
section
variable {M : Model} {A : Around} {E : Value → Shared → Prop} {h₀ : Heap} {x : Str} {Q : Flow → Shared → Prop} {T : Sem Flow} {s : Shared} {L : Addr} {m : Str → Option Value} {news : List (Addr × Obj)} {v : Value} {b : Bool} {r : Int} {t : Tok}
theorem join_low (_ : FlagL v b) (_ : m (Str.ofString "rows") = some (.int r t)) (hr : 0 ≤ r ∧ r ≤ 1000) (_ : Fr h₀ L s.heap m) (_ : News h₀ L s.heap news) (first : wpAny M A T (JoinEnd h₀ L s (Str.ofString "rows") m news (fun r' => r' = gQ b r)) E s)
    (next : ∀ r' t' h tk, r' = gQ b r → (0 ≤ r' ∧ r' ≤ 1000) → Fr h₀ L h (fun z => if z = Str.ofString "rows" then some (.int r' t') else m z) → News h₀ L h news → Q .next { s with heap := h, toks := tk }) : wpAny M A T Q E s :=
  join_int _ _ first fun r' t' h tk e F N => next r' t' h tk e (e ▸ gQ_ok hr) F N
theorem join_high (_ : FlagH v b) (_ : m (Str.ofString "rows") = some (.int r t)) (hr : 0 ≤ r ∧ r ≤ 1000) (_ : Fr h₀ L s.heap m) (_ : News h₀ L s.heap news) (first : wpAny M A T (JoinEnd h₀ L s (Str.ofString "rows") m news (fun r' => r' = gQ b r)) E s)
    (next : ∀ r' t' h tk, r' = gQ b r → (0 ≤ r' ∧ r' ≤ 1000) → Fr h₀ L h (fun z => if z = Str.ofString "rows" then some (.int r' t') else m z) → News h₀ L h news → Q .next { s with heap := h, toks := tk }) : wpAny M A T Q E s :=
  join_int _ _ first fun r' t' h tk e F N => next r' t' h tk e (e ▸ gQ_ok hr) F N
end
section
variable {prog : Program} {w : World} {A : Around} {E : Value → Shared → Prop} {s : Shared} {h₀ : Heap} {L : Addr} {m : Str → Option Value} {news : List (Addr × Obj)} {Q : Value → Shared → Prop} {a b : Int} {t u : Tok}
theorem ILen.le {news : List (Addr × Obj)} {v : Value} {nl : Nat} (h : ILen news v nl) : nl ≤ 3 := by
  rcases h with ⟨rfl, _⟩ | ⟨_, _, _, _, _, _, _, h⟩
  · exact Nat.zero_le _
  · exact h
theorem len_il {rest : List (Addr × Obj)} {il : Value} {nl : Nat} (hil : ILen rest il nl) (hn : nl ≠ 0) (N : News h₀ L s.heap news) (hs : ∀ p ∈ rest, p ∈ news) (h : Q (.int (nl : Int) (s.toks + 1)) { s with toks := s.toks + 1 + 1 }) :
    wpAny (model prog w) A (call (.builtin "len") [il]) Q E s := by
  rcases hil with ⟨rfl, _⟩ | ⟨lv, vs, n, rfl, hm, rfl, _, h3⟩
  · exact absurd rfl hn
  · exact len_led N (hs _ hm) (by omega) h
theorem mul_gen (ha : 0 ≤ a ∧ a ≤ 1000) (hb : 0 ≤ b ∧ b ≤ 4) (h : ∀ v, v = a * b → (0 ≤ v ∧ v ≤ 4000) → Q (.int v s.toks) { s with toks := s.toks + 1 }) : wpAny (model prog w) A (binaryOp .Mult (.int a t) (.int b u)) Q E s := by
  refine mul_int (h _ rfl ⟨Int.mul_nonneg ha.1 hb.1, ?_⟩) (IntMulOk.of_left (intBits_le_64 (by omega) (by omega)))
  have := Int.mul_le_mul ha.2 hb.2 hb.1 (by omega)
  omega
theorem fdiv_gen (ha : 0 ≤ a ∧ a ≤ 1000) (h : ∀ v, v = a.fdiv 10 → (0 ≤ v ∧ v ≤ 1000) → Q (.int v s.toks) { s with toks := s.toks + 1 }) : wpAny (model prog w) A (binaryOp .FloorDiv (.int a t) (.int 10 u)) Q E s := by
  refine floordiv_int (by decide) (h _ rfl ?_) (Or.inl (PyProof.noPylong_small (by omega)))
  rw [Int.fdiv_eq_ediv_of_nonneg _ (by decide)]; omega
theorem max_gen (ha : 0 ≤ a ∧ a ≤ 1000) (hh : A.handled = none) (F : Fr h₀ L s.heap m) (N : News h₀ L s.heap news)
    (h : ∀ v t' h' tk, v = max a 1 → (0 ≤ v ∧ v ≤ 1000) → Fr h₀ L h' m → News h₀ L h' news → Q (.int v t') { s with heap := h', toks := tk }) : wpAny (model prog w) A (call (.builtin "max") [.int a t, .int 1 u]) Q E s :=
  max_two_N hh F N fun h' tk F' N' => h _ _ h' tk (by omega) (by split <;> omega) F' N'
theorem min_gen (ha : 0 ≤ a ∧ a ≤ 4000) (hh : A.handled = none) (F : Fr h₀ L s.heap m) (N : News h₀ L s.heap news)
    (h : ∀ v t' h' tk, v = min a 1000 → (0 ≤ v ∧ v ≤ 1000) → Fr h₀ L h' m → News h₀ L h' news → Q (.int v t') { s with heap := h', toks := tk }) : wpAny (model prog w) A (call (.builtin "min") [.int a t, .int 1000 u]) Q E s :=
  min_two_N hh F N fun h' tk F' N' => h _ _ h' tk (by omega) (by split <;> omega) F' N'
end
theorem max1_eq {v : Int} : (if 1 > v then 1 else v) = max v 1 := by split <;> omega
theorem min1_eq {v : Int} : (if 1000 < v then 1000 else v) = min v 1000 := by split <;> omega
theorem sg_f {a x : Bool} (h : a = false) : a = (a && x) := by simp [h]
theorem sg_t {a : Bool} {nl : Nat} (h : a = true) : (!decide (nl ≠ 0)) = (a && decide (nl = 0)) := by simp [h]
theorem rw_tn {k nl : Nat} {bl bh a : Bool} {v : Int} (ev : v = 1 * (nl : Int)) (h : a = true) (hn : nl ≠ 0) : (if 1000 < v then 1000 else v) = gRows k bl bh nl a := by
  subst ev; simp only [gRows, gEnd, h, if_true, if_neg hn, min1_eq]
theorem rw_tz {k nl : Nat} {bl bh a : Bool} {v : Int} (ev : v = 1 * 1) (h : a = true) (hn : ¬ nl ≠ 0) : (if 1000 < v then 1000 else v) = gRows k bl bh nl a := by
  subst ev; simp only [gRows, gEnd, h, if_true, if_pos (Decidable.not_not.mp hn), min1_eq]
theorem rw_fn {k nl : Nat} {bl bh a : Bool} {v v3 r r1 : Int} (ev : v = (if 1 > v3 then 1 else v3) * (nl : Int)) (e3 : v3 = r.fdiv 10) (e2 : r = gQ bh r1) (e1 : r1 = gQ bl (gBase k)) (h : a = false) (hn : nl ≠ 0) : (if 1000 < v then 1000 else v) = gRows k bl bh nl a := by
  subst ev e3 e2 e1; simp only [gRows, gEnd, h, Bool.false_eq_true, if_false, if_neg hn, min1_eq, max1_eq]
theorem rw_fz {k nl : Nat} {bl bh a : Bool} {v r r1 : Int} (ev : v = (if 1 > r then 1 else r) * 1) (e2 : r = gQ bh r1) (e1 : r1 = gQ bl (gBase k)) (h : a = false) (hn : ¬ nl ≠ 0) : (if 1000 < v then 1000 else v) = gRows k bl bh nl a := by
  subst ev e2 e1; simp only [gRows, gEnd, h, Bool.false_eq_true, if_false, if_pos (Decidable.not_not.mp hn), min1_eq, max1_eq]
theorem co_tn {k nl : Nat} {bl bh a : Bool} {R v1 v4 per : Int} (e1 : v1 = R * per) (e4 : v4 = 4 * (nl : Int)) (hr : R = gRows k bl bh nl a) (hl : (decide (k ≠ 0) || bl || bh || decide (nl ≠ 0)) = true) (hn : nl ≠ 0) : v1 + v4 = gCost k bl bh nl a per := by
  subst e1 e4 hr; unfold gCost; rw [if_pos hl, if_neg hn]
theorem co_tz {k nl : Nat} {bl bh a : Bool} {R v1 v4 per : Int} (e1 : v1 = R * per) (e4 : v4 = 4 * 1) (hr : R = gRows k bl bh nl a) (hl : (decide (k ≠ 0) || bl || bh || decide (nl ≠ 0)) = true) (hn : ¬ nl ≠ 0) : v1 + v4 = gCost k bl bh nl a per := by
  subst e1 e4 hr; unfold gCost; rw [if_pos hl, if_pos (Decidable.not_not.mp hn)]
theorem co_f {k nl : Nat} {bl bh a : Bool} {R v1 per : Int} (e1 : v1 = R * per) (hr : R = gRows k bl bh nl a) (hl : (decide (k ≠ 0) || bl || bh || decide (nl ≠ 0)) = false) : v1 + 0 = gCost k bl bh nl a per := by
  subst e1 hr; unfold gCost; rw [hl]; rfl
section
local macro_rules | `(tactic| k_handed) => `(tactic| first | exact Flag.handed (FlagL.f (by with_reducible assumption)) | exact Flag.handed (FlagH.f (by with_reducible assumption)) | exact Flag.handed (ILen.flag (by with_reducible assumption)))
set_option maxRecDepth 100000 in
set_option maxHeartbeats 8000000 in
theorem guess_spec {w : World} {mean : ExcName → Option Value} {mg mb : Str → Option Value} {dp un : Nat} {gd : Option (List Code)} {cn : Str} {cs : Scope} {a : Addr} {ccd : Value} {cl : List (Str × Addr)} {outer : List Env} {A₀ : Around} {base h₀ : Heap} {L : Addr} {m : Str → Option Value} {s : Shared} {Q E : Value → Shared → Prop} {rest : List (Addr × Obj)} {p dq e0 e1 : Addr} {es : List Value} {n nl : Nat} {kd ix lo hi la ha il ia cv ds sg rw co : Value} {bl bh single : Bool} {per : Int} {t0 t1 t2 t3 t4 t5 t6 t7 t8 t9 t10 t11 t12 t13 t14 tp : Tok} (B : Below A₀ base outer h₀) (F : Fr h₀ L s.heap m) (X : Frag.In (KF w.params) h₀) (N : News h₀ L s.heap ((dq, pathD w kd ix e0 e1 lo hi la ha il ia cv ds sg rw co t0 t1 t2 t3 t4 t5 t6 t7 t8 t9 t10 t11 t12 t13 t14) :: rest)) (T : Top VW (looseW VW LOOSE) mean mg mb h₀) (hk : cs.kind = .function)
    (hp : (p, instObj 474 dq) ∈ rest) (hap : ∀ q ∈ rest, q.1 ≠ dq) (he : (e0, listOf es.toArray n) ∈ rest) (hk : es.length ≤ 3) (hlo : FlagL lo bl) (hhi : FlagH hi bh) (hil : ILen rest il nl) (hper : 1 ≤ per ∧ per ≤ 4) (hd : dp < 470) (hu : un < 1700)
    (ret : ∀ (rest' : List (Addr × Obj)) (tr tc : Tok) (h' : Heap) (tk' : Nat), (∀ q ∈ rest, q ∈ rest') → (∀ q ∈ rest', q.1 ≠ dq) → Fr h₀ L h' m →
      News h₀ L h' ((dq, pathD w kd ix e0 e1 lo hi la ha il ia cv ds (.bool (single && decide (nl = 0))) (.int (gRows es.length bl bh nl single) tr) (.int (gCost es.length bl bh nl single per) tc) t0 t1 t2 t3 t4 t5 t6 t7 t8 t9 t10 t11 t12 t13 t14) :: rest') → Q .none { s with heap := h', toks := tk' }) :
    wpAny (model PySem.Challenge.rw_nt0116_01.row.prog w) (ktrTop dp un gd cn cs L a ccd cl outer) (call (.ref 513) [.ref p, .int per tp, .bool single]) Q E s := by
  k_with_none
  k_with "binaryOp Mult int int" => ((k_here; (refine mul_gen (by omega) (by omega) ?_); intro v' ev' hv'))
  k_with "binaryOp FloorDiv int int" => ((k_here; (refine fdiv_gen (by omega) ?_); intro v' ev' hv'))
  k_with "call builtin:max" => ((k_here; (rename Fr _ _ _ _ => lF'); (rename News _ _ _ _ => lN'); (refine max_gen (by omega) (by rfl) lF' lN' ?_); intro v' t' h' tk' ev' hv' F' N'; (try k_sweep); (try dsimp only); (try k_fold)))
  k_with "call builtin:min" => ((k_here; (rename Fr _ _ _ _ => lF'); (rename News _ _ _ _ => lN'); (refine min_gen (by omega) (by rfl) lF' lN' ?_); intro v' t' h' tk' ev' hv' F' N'; (try k_sweep); (try dsimp only); (try k_fold)))
  k_with "call ref" => ((k_here; (with_reducible show wpAny _ _ (call (Value.ref 457) _) _ _ _); k_dflt (refine' led_spec ?B ?F ?X ?N ?T ?K ?hq ?hp ?he ?lo ?hi ?il ?dd ?uu ?_; (case B => k_asm); (case F => k_asm); (case X => k_asm); (case N => k_asm); (case T => k_asm); (case K => first | exact rfl | assumption); (case hq => k_mem); (case hp => k_mem); (case he => k_mem); (case lo => exact FlagL.f (by with_reducible assumption)); (case hi => exact FlagH.f (by with_reducible assumption)); (case il => first | exact ILen.flag (by with_reducible assumption) | exact .inl ⟨rfl, rfl⟩ | exact .inr ⟨rfl, _, rfl⟩); (case dd => ktr_room); (case uu => ktr_units); k_whole); intro h' tk' F' N'; (try k_sweep); (try dsimp only); (try k_fold)))
  k_with "compareOp IsNot none" => ((k_here; k_dflt (refine' flag_isnot (b := _) ?k1 ?_; (case k1 => first | exact FlagL.f (by with_reducible assumption) | exact FlagH.f (by with_reducible assumption) | exact ILen.flag (by with_reducible assumption)); k_whole)))
  k_with "compareOp Is none" => ((k_here; k_dflt (refine' flag_is (b := _) ?k1 ?_; (case k1 => first | exact FlagL.f (by with_reducible assumption) | exact FlagH.f (by with_reducible assumption) | exact ILen.flag (by with_reducible assumption)); k_whole)))
  k_with "pyIter ref" => ((k_here; (with_reducible show wpAny _ _ (pyIter (Value.ref _)) (fun it s₂ => LoopAtV _ _ _ _ _ _ _ _ _ it s₂) _ _); (rename Fr _ _ _ _ => lF'); (rename News _ _ _ _ => lN'); (with_unfolding_all refine' list_num (Str.ofString "rows") [] gBase (by rfl) lF' lN' (by rfl) (by k_mem) (fun i' v' t' u' it' I' h' tk' hv' hit' hI' F' N' => ?_) (fun t' u' h' tk' F' N' => ?_)); (try k_lt hI'); (have hb' := gBase_ok i'); (all_goals (try k_fold))))
  k_with "UnrEnd" => ((refine UnrEnd.intro (by assumption) (by assumption) _ (fun p hp => hp) (by k_all) ⟨⟨rfl, _, congrArg (fun r => some (Value.int r _)) (Eq.trans (by assumption) (gBase_next _))⟩, ?_⟩; intro z h1 h2 h3; simp only [if_neg h1, if_neg h2, h3, Bool.false_eq_true, if_false]))
  k_with "JoinEnd" => (((rename Fr _ _ _ _ => lF'); (rename News _ _ _ _ => lN'); (refine JoinEnd.intro lF' lN' (fun p hp => hp) (by rfl) (by first | exact fun _ _ => rfl | exact fun _ h => if_neg h) (by first | exact gQ_t (by assumption) | exact gQ_f (by assumption)))))
  k_with "call builtin:len" => ((k_here; (with_reducible show wpAny _ _ (call (Value.builtin "len") [_]) _ _ _); (rename ILen _ _ _ => hil'); (rename News _ _ _ _ => lN'); (refine len_il hil' (by assumption) lN' (fun p hp => List.mem_cons_of_mem _ hp) ?_); (have hil2' := hil'.le)))
  k_with "exec If" => ((k_here; (fail_if_success (with_reducible show wpAny _ _ _ (JoinEnd _ _ _ _ _ _ _) _ _)); (with_reducible show wpAny _ _ (exec (Stmt.If (Expr.Compare (Expr.Attribute _ (Str.ofString "low") _) _ _ _) _ _ _) _) _ _ _); (rename Fr _ _ _ _ => lF'); (rename News _ _ _ _ => lN'); k_dflt (refine' join_low (by with_reducible assumption) (by rfl) (by first | with_reducible assumption | exact gBase_ok _) lF' lN' ?_ (fun r' t' h' tk' er' hr' F' N' => ?_))))
  k_with "exec If" => ((k_here; (fail_if_success (with_reducible show wpAny _ _ _ (JoinEnd _ _ _ _ _ _ _) _ _)); (with_reducible show wpAny _ _ (exec (Stmt.If (Expr.Compare (Expr.Attribute _ (Str.ofString "high") _) _ _ _) _ _ _) _) _ _ _); (rename Fr _ _ _ _ => lF'); (rename News _ _ _ _ => lN'); k_dflt (refine' join_high (by with_reducible assumption) (by rfl) (by first | with_reducible assumption | exact gBase_ok _) lF' lN' ?_ (fun r' t' h' tk' er' hr' F' N' => ?_))))
  have ret' : ∀ (sg : Bool) (rw' co' : Int) (rest' : List (Addr × Obj)) (tr tc : Tok) (h' : Heap) (tk' : Nat), sg = (single && decide (nl = 0)) → rw' = gRows es.length bl bh nl single → co' = gCost es.length bl bh nl single per → (∀ q ∈ rest, q ∈ rest') → (∀ q ∈ rest', q.1 ≠ dq) → Fr h₀ L h' m →
      News h₀ L h' ((dq, pathD w kd ix e0 e1 lo hi la ha il ia cv ds (.bool sg) (.int rw' tr) (.int co' tc) t0 t1 t2 t3 t4 t5 t6 t7 t8 t9 t10 t11 t12 t13 t14) :: rest') → Q .none { s with heap := h', toks := tk' } := by
    rintro _ _ _ rest' tr tc h' tk' rfl rfl rfl h1 h2 h3 h4
    exact ret rest' tr tc h' tk' h1 h2 h3 h4
  clear ret
  refine wpAny_call ?_
  k_dflt ktr_enter
  k_steps
  all_goals (rename News _ _ _ _ => kN; refine' ret' _ _ _ _ _ _ _ _ ?s1 ?s2 ?s3 ?s9 ?o9 ?f9 (news_sub kN (Sel.sub (r := _) ?g9)); (case f9 => k_asm); (case g9 => repeat' (first | exact Sel.head | refine' Sel.tail ?_)); (case s9 => exact fun p hp => by (repeat (first | exact hp | refine List.mem_cons_of_mem _ ?_))); (case o9 => k_all); (case s1 => first | exact sg_f (by assumption) | exact sg_t (by assumption)); (case s2 => first | exact rw_tn (by assumption) (by assumption) (by assumption) | exact rw_tz (by assumption) (by assumption) (by assumption) | exact rw_fn (by assumption) (by assumption) (by assumption) (by assumption) (by assumption) (by assumption) | exact rw_fz (by assumption) (by assumption) (by assumption) (by assumption) (by assumption)); (case s3 => (first | refine co_tn (by assumption) (by assumption) ?_ (by assumption) (by assumption) | refine co_tz (by assumption) (by assumption) ?_ (by assumption) (by assumption) | refine co_f (by assumption) ?_ (by assumption)); (first | exact rw_tn (by assumption) (by assumption) (by assumption) | exact rw_tz (by assumption) (by assumption) (by assumption) | exact rw_fn (by assumption) (by assumption) (by assumption) (by assumption) (by assumption) (by assumption) | exact rw_fz (by assumption) (by assumption) (by assumption) (by assumption) (by assumption))))
end
end
section
section
set_option maxRecDepth 100000 in
set_option maxHeartbeats 8000000 in
theorem surely_spec {w : World} {mean : ExcName → Option Value} {mg mb : Str → Option Value} {dp un : Nat} {gd : Option (List Code)} {cn : Str} {cs : Scope} {a : Addr} {ccd : Value} {cl : List (Str × Addr)} {outer : List Env} {A₀ : Around} {base h₀ : Heap} {L : Addr} {m : Str → Option Value} {s : Shared} {Q E : Value → Shared → Prop} {news : List (Addr × Obj)} {v : Value} (B : Below A₀ base outer h₀) (F : Fr h₀ L s.heap m) (X : Frag.In (KF w.params) h₀) (N : News h₀ L s.heap (news)) (T : Top VW (looseW VW LOOSE) mean mg mb h₀) (hk : cs.kind = .function) (hv : LitIn w news v) (hd : dp < 500) (hu : un < 2000)
    (ret : ∀ (h' : Heap) (tk' : Nat), Fr h₀ L h' m → News h₀ L h' news → Q (.bool true) { s with heap := h', toks := tk' }) :
    wpAny (model PySem.Challenge.rw_nt0116_01.row.prog w) (ktrTop dp un gd cn cs L a ccd cl outer) (call (.ref 435) [v]) Q E s := by
  k_with_none
  obtain ⟨l, dl, i, t, ti, rfl, hl, hdl⟩ := hv
  refine wpAny_call ?_
  k_dflt ktr_enter
  k_steps
  all_goals (first | (rename News _ _ _ _ => kN; refine' ret _ _ ?f9 (news_sub kN ?g9); (case f9 => k_asm); (case g9 => exact fun p hp => by (repeat (first | exact hp | refine List.mem_cons_of_mem _ ?_)))) | w_report)
end
section
set_option maxRecDepth 100000 in
set_option maxHeartbeats 8000000 in
theorem fits_spec {w : World} {mean : ExcName → Option Value} {mg mb : Str → Option Value} {dp un : Nat} {gd : Option (List Code)} {cn : Str} {cs : Scope} {a : Addr} {ccd : Value} {cl : List (Str × Addr)} {outer : List Env} {A₀ : Around} {base h₀ : Heap} {L : Addr} {m : Str → Option Value} {s : Shared} {Q E : Value → Shared → Prop} {news : List (Addr × Obj)} {c tb : Addr} {place : Int} {tp tc : Tok} {desc : Bool} {nc : Nat} (B : Below A₀ base outer h₀) (F : Fr h₀ L s.heap m) (X : Frag.In (KF w.params) h₀) (N : News h₀ L s.heap (news)) (T : Top VW (looseW VW LOOSE) mean mg mb h₀) (hk : cs.kind = .function)
    (hc : (c, ({ cls := .type "tuple", data := .seq #[.int place tp, .str (Str.ofString "binary") tc, .bool desc] nc } : Obj)) ∈ news) (hT : TableIn w news tb) (hd : dp < 490) (hu : un < 1900)
    (ret : ∀ (f : Addr) (nf : Nat) (h' : Heap) (tk' : Nat), AllLt f news → Fr h₀ L h' m → News h₀ L h' ((f, ({ cls := .type "tuple", data := .seq #[.int place tp, .bool (decide (place < 0)), .str (Str.ofString "binary") tc, .ref tb] nf } : Obj)) :: news) → Q (.ref f) { s with heap := h', toks := tk' }) :
    wpAny (model PySem.Challenge.rw_nt0116_01.row.prog w) (ktrTop dp un gd cn cs L a ccd cl outer) (call (.ref 525) [.ref c, .ref tb]) Q E s := by
  k_with_none
  k_with "call ref" => ((k_here; (with_reducible show wpAny _ _ (call (Value.ref 428) _) _ _ _); k_dflt (refine' isrow_spec ?B ?F ?X ?N ?T ?K ?hT ?dd ?uu ?_; (case B => k_asm); (case F => k_asm); (case X => k_asm); (case N => k_asm); (case T => k_asm); (case K => first | exact rfl | assumption); (case hT => first | assumption | exact TableIn.mono (by assumption) (by kcf_all)); (case dd => ktr_room); (case uu => ktr_units); k_whole); intro b' h' tk' hb' F' N'; (try k_sweep); (try dsimp only); (try k_fold)))
  refine wpAny_call ?_
  k_dflt ktr_enter
  k_steps
  all_goals (rename (_ = decide (_ < 0)) => hb'; subst hb'; rename News _ _ _ _ => kN; refine' ret _ _ _ _ ?o9 ?f9 (news_sub kN (Sel.sub (r := _) ?g9)); (case f9 => k_asm); (case g9 => repeat' (first | exact Sel.head | refine' Sel.tail ?_)); (case o9 => first | assumption | exact allLt_of (by assumption) | trace_state))
end
end
section
/-- one walk of a statement that may store `x` and may turn the ledger -/
def JoinW (h₀ : Heap) (L : Addr) (s : Shared) (x : Str) (m : Str → Option Value) (I : List (Addr × Obj) → Prop) (f : Flow) (s' : Shared) : Prop :=
  f = .next ∧ ∃ h tk m' nw, s' = { s with heap := h, toks := tk } ∧ Fr h₀ L h m' ∧ News h₀ L h nw ∧ I nw ∧ ∀ z, z ≠ x → m' z = m z
theorem join_w {M : Model} {A : Around} {E : Value → Shared → Prop} {s : Shared} {h₀ : Heap} {Q : Flow → Shared → Prop} {T : Sem Flow} {L : Addr} {m : Str → Option Value} (x : Str) (I : List (Addr × Obj) → Prop)
    (first : wpAny M A T (JoinW h₀ L s x m I) E s)
    (next : ∀ (u : Str → Option Value) nw h tk, I nw → Fr h₀ L h (fun z => if z = x then u z else m z) → News h₀ L h nw → Q .next { s with heap := h, toks := tk }) : wpAny M A T Q E s := by
  refine wpAny_mono first (fun f s' p => ?_) fun _ _ e => e
  obtain ⟨rfl, h, tk, m', nw, rfl, F, N, hI, hz⟩ := p
  have e : m' = fun z => if z = x then m' z else m z := by
    funext z
    by_cases h1 : z = x
    · rw [if_pos h1]
    · rw [if_neg h1]; exact hz z h1
  exact next m' nw h tk hI (e ▸ F) N
theorem JoinW.intro {h₀ : Heap} {s : Shared} {L : Addr} {x : Str} {m m' : Str → Option Value} {I : List (Addr × Obj) → Prop} {nw all : List (Addr × Obj)} {h : Heap} {tk : Nat} (F : Fr h₀ L h m') (N : News h₀ L h all) (hs : ∀ p ∈ nw, p ∈ all) (hI : I nw) (hz : ∀ z, z ≠ x → m' z = m z) :
    JoinW h₀ L s x m I .next { s with heap := h, toks := tk } := ⟨rfl, h, tk, m', nw, rfl, F, fun p hp => N p (hs p hp), hI, hz⟩
/-- the list `fl` of good values ahead of a ledger that holds `R` -/
def Found (G : List (Addr × Obj) → Value → Prop) (fl : Addr) (R : List (Addr × Obj)) (k : Nat) (nw : List (Addr × Obj)) : Prop :=
  ∃ (vs : List Value) (n : Nat) (R' : List (Addr × Obj)), nw = (fl, listOf vs.toArray n) :: R' ∧ (∀ p ∈ R, p ∈ R') ∧ (∀ p ∈ R', p.1 ≠ fl) ∧ (∀ v ∈ vs, G R' v) ∧ vs.length ≤ k
theorem sub_cons {q : Addr × Obj} {r l : List (Addr × Obj)} (hq : q ∈ l) (hr : ∀ p ∈ r, p ∈ l) : ∀ p ∈ q :: r, p ∈ l := by
  intro p hp
  rcases List.mem_cons.mp hp with e | hp
  · exact e ▸ hq
  · exact hr p hp
theorem all_snoc {G : Value → Prop} {vs : List Value} {x : Value} (h : ∀ v ∈ vs, G v) (hx : G x) : ∀ v ∈ vs ++ [x], G v := by
  intro v hv
  rcases List.mem_append.mp hv with hv | hv
  · exact h v hv
  · rw [List.mem_singleton.mp hv]; exact hx
theorem allLt_all {d : Addr} {r : List (Addr × Obj)} (h : ∀ p ∈ r, p.1 < d) : AllLt d r := by
  induction r with
  | nil => trivial
  | cons q r ih => exact ⟨h q List.mem_cons_self, ih fun p hp => h p (List.mem_cons_of_mem _ hp)⟩
def gOk (rows cost : Int) : Prop := (0 ≤ rows ∧ rows ≤ 1000) ∧ (0 ≤ cost ∧ cost ≤ 5000)
theorem gEnd_ok {r : Int} {nl : Nat} {sg : Bool} (hr : 0 ≤ r) : 0 ≤ gEnd r nl sg ∧ gEnd r nl sg ≤ 1000 := by
  unfold gEnd
  have h1 : 0 ≤ (if sg then 1 else max (if nl = 0 then r else r.fdiv 10) 1) := by split <;> omega
  have h2 : (0 : Int) ≤ (if nl = 0 then 1 else (nl : Int)) := by split <;> omega
  have h3 := Int.mul_nonneg h1 h2
  omega
theorem gRows_ok {k : Nat} {bl bh sg : Bool} {nl : Nat} : 0 ≤ gRows k bl bh nl sg ∧ gRows k bl bh nl sg ≤ 1000 :=
  gEnd_ok (gQ_ok (gQ_ok (gBase_ok k))).1
theorem gCost_ok {k : Nat} {bl bh sg : Bool} {nl : Nat} {per : Int} (hn : nl ≤ 3) (hp : 0 ≤ per ∧ per ≤ 4) : 0 ≤ gCost k bl bh nl sg per ∧ gCost k bl bh nl sg per ≤ 5000 := by
  unfold gCost
  have h1 := gRows_ok (k := k) (bl := bl) (bh := bh) (sg := sg) (nl := nl)
  have h2 := Int.mul_nonneg h1.1 hp.1
  have h3 := Int.mul_le_mul h1.2 hp.2 hp.1 (by omega)
  split <;> (try split) <;> omega
/-- a path as `guess` leaves it -/
def PathIn (w : World) (R : List (Addr × Obj)) (v : Value) (kd : Str) (cov : Bool) (k : Nat) (bl bh : Bool) (nl : Nat) (sg : Bool) (per : Int) : Prop :=
  ∃ (p dq e0 e1 : Addr) (es : List Value) (n : Nat) (ix lo hi la ha il ia ds : Value) (tk tr tc t0 t1 t2 t3 t4 t5 t6 t7 t8 t9 t10 t11 t12 t13 t14 : Tok),
    v = .ref p ∧ (p, instObj 474 dq) ∈ R ∧ (dq, pathD w (.str kd tk) ix e0 e1 lo hi la ha il ia (.bool cov) ds (.bool (sg && decide (nl = 0))) (.int (gRows k bl bh nl sg) tr) (.int (gCost k bl bh nl sg per) tc) t0 t1 t2 t3 t4 t5 t6 t7 t8 t9 t10 t11 t12 t13 t14) ∈ R ∧
    (e0, listOf es.toArray n) ∈ R ∧ es.length = k ∧ k ≤ 3 ∧ FlagL lo bl ∧ FlagH hi bh ∧ ILen R il nl
theorem PathIn.elim {w : World} {R : List (Addr × Obj)} {v : Value} {kd : Str} {cov : Bool} {k : Nat} {bl bh : Bool} {nl : Nat} {sg : Bool} {per : Int} (h : PathIn w R v kd cov k bl bh nl sg per) :
  ∃ (p dq e0 e1 : Addr) (es : List Value) (n : Nat) (ix lo hi la ha il ia ds : Value) (tk tr tc t0 t1 t2 t3 t4 t5 t6 t7 t8 t9 t10 t11 t12 t13 t14 : Tok),
    v = .ref p ∧ (p, instObj 474 dq) ∈ R ∧ (dq, pathD w (.str kd tk) ix e0 e1 lo hi la ha il ia (.bool cov) ds (.bool (sg && decide (nl = 0))) (.int (gRows k bl bh nl sg) tr) (.int (gCost k bl bh nl sg per) tc) t0 t1 t2 t3 t4 t5 t6 t7 t8 t9 t10 t11 t12 t13 t14) ∈ R ∧
    (e0, listOf es.toArray n) ∈ R ∧ es.length = k ∧ k ≤ 3 ∧ FlagL lo bl ∧ FlagH hi bh ∧ ILen R il nl := h
theorem PathIn.mono {w : World} {R R' : List (Addr × Obj)} {v : Value} {kd : Str} {cov : Bool} {k : Nat} {bl bh : Bool} {nl : Nat} {sg : Bool} {per : Int} (h : PathIn w R v kd cov k bl bh nl sg per) (hs : ∀ p ∈ R, p ∈ R') : PathIn w R' v kd cov k bl bh nl sg per := by
  obtain ⟨p, dq, e0, e1, es, n, ix, lo, hi, la, ha, il, ia, ds, tk, tr, tc, t0, t1, t2, t3, t4, t5, t6, t7, t8, t9, t10, t11, t12, t13, t14, e, h1, h2, h3, h4, h5, h6, h7, h8⟩ := h
  exact ⟨p, dq, e0, e1, es, n, ix, lo, hi, la, ha, il, ia, ds, tk, tr, tc, t0, t1, t2, t3, t4, t5, t6, t7, t8, t9, t10, t11, t12, t13, t14, e, hs _ h1, hs _ h2, hs _ h3, h4, h5, h6, h7, h8.mono hs⟩
/-- what the plans read of a path: its rows and its cost -/
def PathVal (w : World) (R : List (Addr × Obj)) (v : Value) (rows cost : Int) : Prop :=
  ∃ (p dq e0 e1 : Addr) (kd ix lo hi la ha il ia cv ds sg : Value) (tr tc t0 t1 t2 t3 t4 t5 t6 t7 t8 t9 t10 t11 t12 t13 t14 : Tok),
    v = .ref p ∧ (p, instObj 474 dq) ∈ R ∧ (dq, pathD w kd ix e0 e1 lo hi la ha il ia cv ds sg (.int rows tr) (.int cost tc) t0 t1 t2 t3 t4 t5 t6 t7 t8 t9 t10 t11 t12 t13 t14) ∈ R
theorem PathVal.elim {w : World} {R : List (Addr × Obj)} {v : Value} {rows cost : Int} (h : PathVal w R v rows cost) :
  ∃ (p dq e0 e1 : Addr) (kd ix lo hi la ha il ia cv ds sg : Value) (tr tc t0 t1 t2 t3 t4 t5 t6 t7 t8 t9 t10 t11 t12 t13 t14 : Tok),
    v = .ref p ∧ (p, instObj 474 dq) ∈ R ∧ (dq, pathD w kd ix e0 e1 lo hi la ha il ia cv ds sg (.int rows tr) (.int cost tc) t0 t1 t2 t3 t4 t5 t6 t7 t8 t9 t10 t11 t12 t13 t14) ∈ R := h
theorem PathVal.mono {w : World} {R R' : List (Addr × Obj)} {v : Value} {a b : Int} (h : PathVal w R v a b) (hs : ∀ p ∈ R, p ∈ R') : PathVal w R' v a b := by
  obtain ⟨p, dq, e0, e1, kd, ix, lo, hi, la, ha, il, ia, cv, ds, sg, tr, tc, t0, t1, t2, t3, t4, t5, t6, t7, t8, t9, t10, t11, t12, t13, t14, e, h1, h2⟩ := h
  exact ⟨p, dq, e0, e1, kd, ix, lo, hi, la, ha, il, ia, cv, ds, sg, tr, tc, t0, t1, t2, t3, t4, t5, t6, t7, t8, t9, t10, t11, t12, t13, t14, e, hs _ h1, hs _ h2⟩
theorem PathIn.val {w : World} {R : List (Addr × Obj)} {v : Value} {kd : Str} {cov : Bool} {k : Nat} {bl bh : Bool} {nl : Nat} {sg : Bool} {per : Int} (h : PathIn w R v kd cov k bl bh nl sg per) : PathVal w R v (gRows k bl bh nl sg) (gCost k bl bh nl sg per) := by
  obtain ⟨p, dq, e0, e1, es, n, ix, lo, hi, la, ha, il, ia, ds, tk, tr, tc, t0, t1, t2, t3, t4, t5, t6, t7, t8, t9, t10, t11, t12, t13, t14, e, h1, h2, h3, h4, h5, h6, h7, h8⟩ := h
  exact ⟨p, dq, e0, e1, _, _, _, _, _, _, _, _, _, _, _, _, _, _, _, _, _, _, _, _, _, _, _, _, _, _, _, _, e, h1, h2⟩
noncomputable def ledN (k nl : Nat) : Nat := k + (if nl = 0 then 0 else 1)
/-- a path of rowid_paths -/
def RowPath (w : World) (R : List (Addr × Obj)) (v : Value) : Prop :=
  (∃ (k : Nat) (bl bh : Bool) (nl : Nat), nl ≤ 3 ∧ PathIn w R v (Str.ofString "rowid") false k bl bh nl true 2 ∧ ledN k nl = 1) ∨
  (∃ (k : Nat) (bl bh : Bool) (nl : Nat), nl ≤ 3 ∧ PathIn w R v (Str.ofString "rowid_range") false k bl bh nl false 2)
theorem RowPath.mono {w : World} {R R' : List (Addr × Obj)} {v : Value} (h : RowPath w R v) (hs : ∀ p ∈ R, p ∈ R') : RowPath w R' v := by
  rcases h with ⟨k, bl, bh, nl, h0, h, e⟩ | ⟨k, bl, bh, nl, h0, h⟩
  · exact .inl ⟨k, bl, bh, nl, h0, h.mono hs, e⟩
  · exact .inr ⟨k, bl, bh, nl, h0, h.mono hs⟩
/-- a path of index_paths -/
def IdxPath (w : World) (uq : Bool) (nc : Nat) (cov : Bool) (R : List (Addr × Obj)) (v : Value) : Prop :=
  ∃ (k : Nat) (bl bh : Bool) (nl : Nat), nl ≤ 3 ∧ PathIn w R v (Str.ofString "index") cov k bl bh nl (uq && decide (ledN k nl = nc)) (if cov then 2 else 3)
theorem IdxPath.mono {w : World} {uq : Bool} {nc : Nat} {cov : Bool} {R R' : List (Addr × Obj)} {v : Value} (h : IdxPath w uq nc cov R v) (hs : ∀ p ∈ R, p ∈ R') : IdxPath w uq nc cov R' v := by
  obtain ⟨k, bl, bh, nl, h0, h⟩ := h
  exact ⟨k, bl, bh, nl, h0, h.mono hs⟩
/-- any path at all, its numbers within bounds -/
def AnyPath (w : World) (R : List (Addr × Obj)) (v : Value) : Prop := ∃ rows cost, gOk rows cost ∧ PathVal w R v rows cost
theorem AnyPath.mono {w : World} {R R' : List (Addr × Obj)} {v : Value} (h : AnyPath w R v) (hs : ∀ p ∈ R, p ∈ R') : AnyPath w R' v := by
  obtain ⟨a, b, h0, h⟩ := h
  exact ⟨a, b, h0, h.mono hs⟩
theorem RowPath.any {w : World} {R : List (Addr × Obj)} {v : Value} (h : RowPath w R v) : AnyPath w R v := by
  rcases h with ⟨k, bl, bh, nl, h0, h, e⟩ | ⟨k, bl, bh, nl, h0, h⟩
  · exact ⟨_, _, ⟨gRows_ok, gCost_ok h0 (by decide)⟩, h.val⟩
  · exact ⟨_, _, ⟨gRows_ok, gCost_ok h0 (by decide)⟩, h.val⟩
theorem IdxPath.any {w : World} {uq : Bool} {nc : Nat} {cov : Bool} {R : List (Addr × Obj)} {v : Value} (h : IdxPath w uq nc cov R v) : AnyPath w R v := by
  obtain ⟨k, bl, bh, nl, h0, h⟩ := h
  exact ⟨_, _, ⟨gRows_ok, gCost_ok h0 (by cases cov <;> decide)⟩, h.val⟩
/-- what the law reckons -/
theorem due_base {r : Int} (b : Bool) (h : 0 ≤ r) : (gQ b r).fdiv 10 = gQ b (r.fdiv 10) := by
  unfold gQ
  split
  · rw [Int.fdiv_eq_ediv_of_nonneg _ (by decide), Int.fdiv_eq_ediv_of_nonneg _ (by decide), Int.fdiv_eq_ediv_of_nonneg _ (by decide), Int.fdiv_eq_ediv_of_nonneg _ (by decide)]; omega
  · rfl
theorem due_led {k nl : Nat} {bl bh : Bool} : gQ bh (gQ bl (gBase (ledN k nl))) = (if nl = 0 then gQ bh (gQ bl (gBase k)) else (gQ bh (gQ bl (gBase k))).fdiv 10) := by
  unfold ledN
  split
  · rw [Nat.add_zero]
  · rw [due_base _ (gQ_ok (gBase_ok k)).1, due_base _ (gBase_ok k).1, gBase_next]
/-- the plans' sums -/
noncomputable def cSum : List (Int × Int) → Int × Int → Int × Int
  | [], a => a
  | p :: r, a => cSum r (a.1 + a.2 * p.2, a.2 * p.1)
noncomputable def powB : Nat → Int
  | 0 => 1
  | n + 1 => 1000 * powB n
end
section
theorem FB.flag {w : World} {R : List (Addr × Obj)} {v : Value} {b : Bool} {ys : List PySem.Str} (h : FB w R v b ys) : Flag v b := by
  rcases h with ⟨h1, h2⟩ | ⟨h1, op, ⟨x, _, _, _, _, _, _, _, _, _, _, _, e, _⟩, _⟩
  · exact .inl ⟨h1, h2⟩
  · exact .inr ⟨h1, x, e⟩
theorem FB.bnd {w : World} {R l : List (Addr × Obj)} {v : Value} {b : Bool} {ys : List PySem.Str} (h : FB w R v b ys) (hs : ∀ p ∈ R, p ∈ l) : Bnd w l v b := by
  rcases h with ⟨h1, h2⟩ | ⟨h1, op, h2, _⟩
  · exact .inl ⟨h1, h2⟩
  · exact .inr ⟨h1, op, h2.mono hs⟩
theorem FB.one {w : World} {R l : List (Addr × Obj)} {v : Value} {b : Bool} {y : PySem.Str} (h : FB w R v b [y]) (hb : b = true) (hs : ∀ p ∈ R, p ∈ l) : BoundAt w l v y := by
  rcases h with ⟨h1, _⟩ | ⟨_, op, h2, h3⟩
  · rw [hb] at h1; cases h1
  · obtain rfl := List.mem_singleton.mp h3
    exact h2.mono hs
theorem FB.in {w : World} {R l : List (Addr × Obj)} {v : Value} {b : Bool} {ys : List PySem.Str} (h : FB w R v b ys) (hb : b = true) (hs : ∀ p ∈ R, p ∈ l) : BoundIn w l v := by
  rcases h with ⟨h1, _⟩ | ⟨_, op, h2, h3⟩
  · rw [hb] at h1; cases h1
  · exact ⟨op, h2.mono hs⟩
theorem flag0 : Flag .none false := .inl ⟨rfl, rfl⟩
theorem flagL0 : FlagL .none false := .inl ⟨rfl, rfl⟩
theorem flagH0 : FlagH .none false := .inl ⟨rfl, rfl⟩
theorem ilen0 {l : List (Addr × Obj)} : ILen l .none 0 := .inl ⟨rfl, rfl⟩
theorem ilen1 {l : List (Addr × Obj)} {lv : Addr} {vs : List Value} {n : Nat} (h : (lv, listOf vs.toArray n) ∈ l) (h1 : 1 ≤ vs.length) (h3 : vs.length ≤ 3) : ILen l (.ref lv) vs.length := .inr ⟨lv, vs, n, rfl, h, rfl, h1, h3⟩
theorem Sub.trans {R l l' : List (Addr × Obj)} (h : Sub R l) (h' : ∀ p ∈ l, p ∈ l') : Sub R l' := fun p hp => h' p (h p hp)
theorem guess_at {w : World} {mean : ExcName → Option Value} {mg mb : Str → Option Value} {dp un : Nat} {gd : Option (List Code)} {cn : Str} {cs : Scope} {a : Addr} {ccd : Value} {cl : List (Str × Addr)} {outer : List Env} {A₀ : Around} {base h₀ : Heap} {L : Addr} {m : Str → Option Value} {s : Shared} {Q E : Value → Shared → Prop} {l rest : List (Addr × Obj)} {p dq e0 e1 : Addr} {es : List Value} {n nl : Nat} {kd ix lo hi la ha il ia cv ds sg rw co : Value} {bl bh single : Bool} {per : Int} {t0 t1 t2 t3 t4 t5 t6 t7 t8 t9 t10 t11 t12 t13 t14 tp : Tok} (B : Below A₀ base outer h₀) (F : Fr h₀ L s.heap m) (X : Frag.In (KF w.params) h₀) (N : News h₀ L s.heap (l)) (T : Top VW (looseW VW LOOSE) mean mg mb h₀) (hk : cs.kind = .function)
    (S : Sel (dq, pathD w kd ix e0 e1 lo hi la ha il ia cv ds sg rw co t0 t1 t2 t3 t4 t5 t6 t7 t8 t9 t10 t11 t12 t13 t14) l rest)
    (hp : (p, instObj 474 dq) ∈ rest) (hap : ∀ q ∈ rest, q.1 ≠ dq) (he : (e0, listOf es.toArray n) ∈ rest) (hk3 : es.length ≤ 3) (hlo : FlagL lo bl) (hhi : FlagH hi bh) (hil : ILen rest il nl) (hper : 1 ≤ per ∧ per ≤ 4) (hd : dp < 470) (hu : un < 1700)
    (ret : ∀ (tr tc : Tok) (h' : Heap) (tk' : Nat), Fr h₀ L h' m →
      News h₀ L h' ((dq, pathD w kd ix e0 e1 lo hi la ha il ia cv ds (.bool (single && decide (nl = 0))) (.int (gRows es.length bl bh nl single) tr) (.int (gCost es.length bl bh nl single per) tc) t0 t1 t2 t3 t4 t5 t6 t7 t8 t9 t10 t11 t12 t13 t14) :: rest) → Q .none { s with heap := h', toks := tk' }) :
    wpAny (model PySem.Challenge.rw_nt0116_01.row.prog w) (ktrTop dp un gd cn cs L a ccd cl outer) (call (.ref 513) [.ref p, .int per tp, .bool single]) Q E s :=
  guess_spec B F X (news_sub N S.sub) T hk hp hap he hk3 hlo hhi hil hper hd hu fun rest' tr tc h' tk' hs _ F' N' => ret tr tc h' tk' F' (news_sub N' (sub_cons List.mem_cons_self fun q hq => List.mem_cons_of_mem _ (hs q hq)))
theorem range_at {w : World} {mean : ExcName → Option Value} {mg mb : Str → Option Value} {dp un : Nat} {gd : Option (List Code)} {cn : Str} {cs : Scope} {a : Addr} {ccd : Value} {cl : List (Str × Addr)} {outer : List Env} {A₀ : Around} {base h₀ : Heap} {L : Addr} {m : Str → Option Value} {s : Shared} {Q E : Value → Shared → Prop} {l rest : List (Addr × Obj)} {p dq e0 e1 : Addr} {kd ix la ha il ia cv ds sg rw co low high : Value} {bl bh : Bool} {t0 t1 t2 t3 t4 t5 t6 t7 t8 t9 t10 t11 t12 t13 t14 : Tok} (B : Below A₀ base outer h₀) (F : Fr h₀ L s.heap m) (X : Frag.In (KF w.params) h₀) (N : News h₀ L s.heap (l)) (T : Top VW (looseW VW LOOSE) mean mg mb h₀) (hk : cs.kind = .function)
    (S : Sel (dq, pathD w kd ix e0 e1 .none .none la ha il ia cv ds sg rw co t0 t1 t2 t3 t4 t5 t6 t7 t8 t9 t10 t11 t12 t13 t14) l rest)
    (hp : (p, instObj 474 dq) ∈ rest) (hap : ∀ q ∈ rest, q.1 ≠ dq) (hlow : Bnd w rest low bl) (hhigh : Bnd w rest high bh) (hd : dp < 480) (hu : un < 1800)
    (ret : ∀ (lo hi la' ha' : Value) (h' : Heap) (tk' : Nat), FlagL lo bl → FlagH hi bh → Fr h₀ L h' m →
      News h₀ L h' ((dq, pathD w kd ix e0 e1 lo hi la' ha' il ia cv ds sg rw co t0 t1 t2 t3 t4 t5 t6 t7 t8 t9 t10 t11 t12 t13 t14) :: rest) → Q .none { s with heap := h', toks := tk' }) :
    wpAny (model PySem.Challenge.rw_nt0116_01.row.prog w) (ktrTop dp un gd cn cs L a ccd cl outer) (call (.ref 506) [.ref p, low, high]) Q E s :=
  range_spec B F X (news_sub N S.sub) T hk hp hap hlow hhigh hd hu fun rest' lo hi la' ha' h' tk' hs _ fl fh F' N' => ret lo hi la' ha' h' tk' fl fh F' (news_sub N' (sub_cons List.mem_cons_self fun q hq => List.mem_cons_of_mem _ (hs q hq)))
theorem list_at {w : World} {mean : ExcName → Option Value} {mg mb : Str → Option Value} {dp un : Nat} {gd : Option (List Code)} {cn : Str} {cs : Scope} {a : Addr} {ccd : Value} {cl : List (Str × Addr)} {outer : List Env} {A₀ : Around} {base h₀ : Heap} {L : Addr} {m : Str → Option Value} {s : Shared} {Q E : Value → Shared → Prop} {R l rest : List (Addr × Obj)} {p dq e0 e1 : Addr} {b kd ix lo hi la ha il ia cv ds sg rw co : Value} {t0 t1 t2 t3 t4 t5 t6 t7 t8 t9 t10 t11 t12 t13 t14 : Tok} (B : Below A₀ base outer h₀) (F : Fr h₀ L s.heap m) (X : Frag.In (KF w.params) h₀) (N : News h₀ L s.heap (l)) (T : Top VW (looseW VW LOOSE) mean mg mb h₀) (hk : cs.kind = .function)
    (S : Sel (dq, pathD w kd ix e0 e1 lo hi la ha il ia cv ds sg rw co t0 t1 t2 t3 t4 t5 t6 t7 t8 t9 t10 t11 t12 t13 t14) l rest)
    (hp : (p, instObj 474 dq) ∈ rest) (hap : ∀ q ∈ rest, q.1 ≠ dq) (hR : Sub R rest) (hb : BoundAt w R b (Str.ofString "in")) (hd : dp < 480) (hu : un < 1800)
    (ret : ∀ (il' ia' : Value) (nl : Nat) (h' : Heap) (tk' : Nat), (1 ≤ nl ∧ nl ≤ 3) → ILen R il' nl → Fr h₀ L h' m →
      News h₀ L h' ((dq, pathD w kd ix e0 e1 lo hi la ha il' ia' cv ds sg rw co t0 t1 t2 t3 t4 t5 t6 t7 t8 t9 t10 t11 t12 t13 t14) :: rest) → Q .none { s with heap := h', toks := tk' }) :
    wpAny (model PySem.Challenge.rw_nt0116_01.row.prog w) (ktrTop dp un gd cn cs L a ccd cl outer) (call (.ref 499) [.ref p, b]) Q E s :=
  list_spec B F X (news_sub N S.sub) T hk hp hap hR hb hd hu fun rest' lv vs n ia' h' tk' hs _ h1 h2 h3 F' N' => ret _ _ _ h' tk' ⟨h2, h3⟩ (ilen1 h1 h2 h3) F' (news_sub N' (sub_cons List.mem_cons_self fun q hq => List.mem_cons_of_mem _ (hs q hq)))
theorem ValOk.ref' {w : World} {news : List (Addr × Obj)} {op : PySem.Str} {v : Value} (h : ValOk w news op v) : ∃ r, v = .ref r := h.ref
section
set_option maxRecDepth 100000 in
set_option maxHeartbeats 8000000 in
theorem puteq_spec {w : World} {mean : ExcName → Option Value} {mg mb : Str → Option Value} {dp un : Nat} {gd : Option (List Code)} {cn : Str} {cs : Scope} {a : Addr} {ccd : Value} {cl : List (Str × Addr)} {outer : List Env} {A₀ : Around} {base h₀ : Heap} {L : Addr} {m : Str → Option Value} {s : Shared} {Q E : Value → Shared → Prop} {rest : List (Addr × Obj)} {b : Value} {op : PySem.Str} {p dq e0 e1 : Addr} {es ea : List Value} {k0 k1 : Nat} {kd ix lo hi la ha il ia cv ds sg rw co : Value} {t0 t1 t2 t3 t4 t5 t6 t7 t8 t9 t10 t11 t12 t13 t14 : Tok} (B : Below A₀ base outer h₀) (F : Fr h₀ L s.heap m) (X : Frag.In (KF w.params) h₀) (N : News h₀ L s.heap ((e1, listOf ea.toArray k1) :: (e0, listOf es.toArray k0) :: rest)) (T : Top VW (looseW VW LOOSE) mean mg mb h₀) (hk : cs.kind = .function)
    (hp : (p, instObj 474 dq) ∈ rest) (hq : (dq, pathD w kd ix e0 e1 lo hi la ha il ia cv ds sg rw co t0 t1 t2 t3 t4 t5 t6 t7 t8 t9 t10 t11 t12 t13 t14) ∈ rest) (he0 : ∀ q ∈ rest, q.1 ≠ e0) (he1 : ∀ q ∈ rest, q.1 ≠ e1) (hlt : e0 < e1) (hs0 : es.length ≤ 100) (hs1 : ea.length ≤ 100) (hb : BoundAt w rest b op) (hd : dp < 480) (hu : un < 1800)
    (ret : ∀ (x y : Value) (h' : Heap) (tk' : Nat), Fr h₀ L h' m → News h₀ L h' ((e1, listOf (ea ++ [y]).toArray (k1 + 1)) :: (e0, listOf (es ++ [x]).toArray (k0 + 1)) :: rest) → Q .none { s with heap := h', toks := tk' }) :
    wpAny (model PySem.Challenge.rw_nt0116_01.row.prog w) (ktrTop dp un gd cn cs L a ccd cl outer) (call (.ref 492) [.ref p, b]) Q E s := by
  k_with_none
  k_with "call builtin:list.append" => ((k_here; (with_reducible show wpAny _ _ (call (Value.builtin _) [Value.ref _, _]) _ _ _); k_dflt (refine' append_led ?k1 ?k2 ?k3 ?z ?_; (case k1 => k_asm); (case k2 => k_asm); (case k3 => k_upd); (case z => omega); k_whole); intro h' F' N'; (try k_sweep)))
  obtain ⟨x1, dx1, pl1, v1, a0, a1, a2, a3, a4, ap, ao, ac, rfl, ho1, hv1, hm1, hm2⟩ := hb
  obtain ⟨r1, er1⟩ := hv1.ref'
  replace hlt := ltN hlt
  subst er1
  refine wpAny_call ?_
  k_dflt ktr_enter
  k_steps
  all_goals (rename News _ _ _ _ => kN; refine' ret _ _ _ _ ?f9 ?g9; (case f9 => k_asm); (case g9 => k_asm))
end
end
section
section
variable {prog : Program} {w : World} {A : Around} {h₀ : Heap} {L : Addr} {m : Str → Option Value} {env : Env} {ct elt : Expr} {x : Str} {scope : Scope} {cl : List (Str × Addr)} {s : Shared} {S : List (Addr × Obj) → Prop} {P : Nat → Value → Prop} {Fin : List Value → List (Addr × Obj) → Prop} {news : List (Addr × Obj)}
/-- a filter that leaves the ledger as it is -/
theorem compT_keep {n : Nat} (G : Value → Prop) (hG : ∀ i v, P i v → G v)
    (turn : ∀ ys v I oI C oC D m₂ h tk (E' : Value → Shared → Prop), G v → LCg.NsObj oC m₂ → m₂ x = some v → Fr h₀ L h m → News h₀ L h ((I, oI) :: (C, oC) :: (D, LCg.lst ys) :: news) → LCg.Off3 I C D news → ((@Ne Nat I C) ∧ (@Ne Nat I D) ∧ (@Ne Nat C D)) →
      wpAny (model prog w) A (isTrue ct (compEnvC scope cl C env) (eval ct (compEnvC scope cl C env))) (fun ok s' => if ok = true then
        wpAny (model prog w) A (eval elt (compEnvC scope cl C env)) (LCg.CompEnd h₀ L m { s with heap := h, toks := tk } I oI C oC D (LCg.lst ys) S (fun y nw' => nw' = news ∧ y = v)) E' s'
        else LCg.CompEnd h₀ L m { s with heap := h, toks := tk } I oI C oC D (LCg.lst ys) S (fun _ nw' => nw' = news) Value.none s') E' { s with heap := h, toks := tk })
    (fin : ∀ ys, (∀ y ∈ ys, G y) → ys.length ≤ n → Fin ys news) : LCt.CompRestT prog w A h₀ L m env ct elt x scope cl s S P Fin n 0 [] news := by
  have key : ∀ (j i : Nat) (ys : List Value) (nw : List (Addr × Obj)), i + j = n → nw = news → (∀ y ∈ ys, G y) → ys.length ≤ i → LCt.CompRestT prog w A h₀ L m env ct elt x scope cl s S P Fin j i ys nw := by
    intro j
    induction j with
    | zero =>
      rintro i ys nw hi rfl hg hl
      exact LCt.CompRestT.zero (fin ys hg (by omega))
    | succ j ih =>
      rintro i ys nw hi rfl hg hl
      refine LCt.CompRestT.succ ?_
      intro v I oI C oC D m₂ h tk E' hv hC hx F N off ne
      refine wpAny_mono (turn ys v I oI C oC D m₂ h tk E' (hG i v hv) hC hx F N off ne) (fun ok s₂ hq => ?_) fun _ _ e => e
      cases ok with
      | true =>
        simp only [if_true] at hq ⊢
        refine wpAny_mono hq (fun y s₃ hq => ?_) fun _ _ e => e
        obtain ⟨h', tk', nw', e, F', N', off', hS, hnw, rfl⟩ := hq
        exact ⟨h', tk', nw', e, F', N', off', hS, ih (i + 1) _ nw' (by omega) hnw (by
          intro u hu
          rcases List.mem_append.mp hu with hu | hu
          · exact hg u hu
          · rw [List.mem_singleton.mp hu]; exact hG i _ hv) (by rw [List.length_append, List.length_singleton]; omega)⟩
      | false =>
        simp only [Bool.false_eq_true, if_false] at hq ⊢
        obtain ⟨h', tk', nw', e, F', N', off', hS, hnw⟩ := hq
        exact ⟨h', tk', nw', e, F', N', off', hS, ih (i + 1) _ nw' (by omega) hnw hg (by omega)⟩
  exact key n 0 [] news (by omega) rfl (fun _ h => nomatch h) (Nat.le_refl _)
end
end
section
/-- what is known beside `R` is newer than `news` -/
def Fresh (R news K : List (Addr × Obj)) : Prop := ∀ p ∈ K, p ∈ R ∨ ∀ x ∈ news, x.1 < p.1
theorem Fresh.self {R news : List (Addr × Obj)} : Fresh R news R := fun _ h => .inl h
theorem Fresh.cons {R news K : List (Addr × Obj)} {q : Addr × Obj} (h : Fresh R news K) (hq : ∀ x ∈ news, x.1 < q.1) : Fresh R news (q :: K) := by
  intro p hp
  rcases List.mem_cons.mp hp with e | hp
  · exact .inr (e ▸ hq)
  · exact h p hp
theorem lt_of_all {news l : List (Addr × Obj)} {d : Addr} (h : AllLt d l) (hs : Sub news l) : ∀ x ∈ news, x.1 < d := fun x hx => ktn_ltOf h x (hs x hx)
theorem Sub.refl {l : List (Addr × Obj)} : Sub l l := fun _ h => h
theorem Sub.consL {q : Addr × Obj} {K l : List (Addr × Obj)} (hq : q ∈ l) (h : Sub K l) : Sub (q :: K) l := sub_cons hq h
theorem Sub.skip {q : Addr × Obj} {K l : List (Addr × Obj)} (h : Sub K l) : Sub K (q :: l) := fun p hp => List.mem_cons_of_mem _ (h p hp)
def Base (R news : List (Addr × Obj)) : Prop := Sub R news
/-- what is known between the parts: the list `fl` of what was found, ahead of `R'`; `K` of it is known -/
structure FState (G : List (Addr × Obj) → Value → Prop) (R news : List (Addr × Obj)) (q : Addr × Obj) (fl : Addr) (vs : List Value) (R' K : List (Addr × Obj)) : Prop where
  n : Sub news R'
  r : Sub R K
  k : Sub K R'
  q : q ∈ R'
  f : Fresh R news K
  ne : ∀ p ∈ R', p.1 ≠ fl
  g : ∀ v ∈ vs, G K v
theorem FState.grow {G : List (Addr × Obj) → Value → Prop} {R news R' R2 K : List (Addr × Obj)} {q : Addr × Obj} {fl : Addr} {vs : List Value} (st : FState G R news q fl vs R' K) (hs : Sub R' R2) (ne : ∀ p ∈ R2, p.1 ≠ fl) : FState G R news q fl vs R2 K :=
  ⟨st.n.trans hs, st.r, st.k.trans hs, hs _ st.q, st.f, ne, st.g⟩
def FoundK (G : List (Addr × Obj) → Value → Prop) (R news : List (Addr × Obj)) (q : Addr × Obj) (fl : Addr) (k : Nat) (nw : List (Addr × Obj)) : Prop :=
  ∃ (vs : List Value) (n : Nat) (R' K : List (Addr × Obj)), nw = (fl, listOf vs.toArray n) :: R' ∧ FState G R news q fl vs R' K ∧ vs.length ≤ k
theorem Base.at {R news : List (Addr × Obj)} (h : Base R news) : ∀ p ∈ R, p ∈ news := h
theorem join_found {M : Model} {A : Around} {E : Value → Shared → Prop} {h₀ : Heap} {Q : Flow → Shared → Prop} {T : Sem Flow} {s : Shared} {L : Addr} {m : Str → Option Value} {G : List (Addr × Obj) → Value → Prop} {R news l R₀ K₀ : List (Addr × Obj)} {fl f : Addr} {fo : Obj} {vs₀ : List Value} {n₀ : Nat} (k : Nat)
    (_ : Base R news) (_ : m (Str.ofString "found") = some (.ref fl)) (_ : m (Str.ofString "fits") = some (.ref f)) (S : Sel (fl, listOf vs₀.toArray n₀) l R₀) (st : FState G R news (f, fo) fl vs₀ R₀ K₀) (hk : vs₀.length ≤ k) (_ : Fr h₀ L s.heap m) (N : News h₀ L s.heap l)
    (first : ∀ (vs : List Value) n R' K, FState G R news (f, fo) fl vs R' K → vs.length ≤ k → Sub news R' → Sub R R' → (∀ p ∈ R', p.1 ≠ fl) → News h₀ L s.heap ((fl, listOf vs.toArray n) :: R') → wpAny M A T (JoinW h₀ L s (Str.ofString "path") m (FoundK G R news (f, fo) fl (k + 1))) E s)
    (next : ∀ (u : Str → Option Value) (vs : List Value) n R' K h tk, FState G R news (f, fo) fl vs R' K → vs.length ≤ k + 1 → Sub news R' → Sub R R' → (f, fo) ∈ R' → (∀ p ∈ R', p.1 ≠ fl) → Fr h₀ L h (fun z => if z = Str.ofString "path" then u z else m z) → News h₀ L h ((fl, listOf vs.toArray n) :: R') → Q .next { s with heap := h, toks := tk }) : wpAny M A T Q E s :=
  join_w _ _ (first vs₀ n₀ R₀ K₀ st hk st.n (st.r.trans st.k) st.ne (news_sub N S.sub)) fun u nw h tk ⟨vs, n, R', K, e, st, h8⟩ F N => next u vs n R' K h tk st h8 st.n (st.r.trans st.k) st.q st.ne F (e ▸ N)
theorem join_row {M : Model} {A : Around} {E : Value → Shared → Prop} {h₀ : Heap} {Q : Flow → Shared → Prop} {T : Sem Flow} {s : Shared} {L : Addr} {m : Str → Option Value} {w : World} {tb : Addr} {R news l R₀ K₀ : List (Addr × Obj)} {fl f : Addr} {fo : Obj} {vs₀ : List Value} {n₀ : Nat} (k : Nat)
    (_ : TableIn w R tb) (hB : Base R news) (hm1 : m (Str.ofString "found") = some (.ref fl)) (hm2 : m (Str.ofString "fits") = some (.ref f)) (S : Sel (fl, listOf vs₀.toArray n₀) l R₀) (st : FState (RowPath w) R news (f, fo) fl vs₀ R₀ K₀) (hk : vs₀.length ≤ k) (F : Fr h₀ L s.heap m) (N : News h₀ L s.heap l)
    (first : ∀ (vs : List Value) n R' K, FState (RowPath w) R news (f, fo) fl vs R' K → vs.length ≤ k → Sub news R' → Sub R R' → (∀ p ∈ R', p.1 ≠ fl) → News h₀ L s.heap ((fl, listOf vs.toArray n) :: R') → wpAny M A T (JoinW h₀ L s (Str.ofString "path") m (FoundK (RowPath w) R news (f, fo) fl (k + 1))) E s)
    (next : ∀ (u : Str → Option Value) (vs : List Value) n R' K h tk, FState (RowPath w) R news (f, fo) fl vs R' K → vs.length ≤ k + 1 → Sub news R' → Sub R R' → (f, fo) ∈ R' → (∀ p ∈ R', p.1 ≠ fl) → Fr h₀ L h (fun z => if z = Str.ofString "path" then u z else m z) → News h₀ L h ((fl, listOf vs.toArray n) :: R') → Q .next { s with heap := h, toks := tk }) : wpAny M A T Q E s :=
  join_found (G := RowPath w) k hB hm1 hm2 S st hk F N first next
theorem JoinW.same {G : List (Addr × Obj) → Value → Prop} {R news : List (Addr × Obj)} {q : Addr × Obj} {fl : Addr} {k : Nat} {h₀ : Heap} {s : Shared} {L : Addr} {x : Str} {m m' : Str → Option Value} {l R' K : List (Addr × Obj)} {vs : List Value} {n : Nat} {h : Heap} {tk : Nat}
    (st : FState G R news q fl vs R' K) (F : Fr h₀ L h m') (N : News h₀ L h l) (hs : ∀ p ∈ (fl, listOf vs.toArray n) :: R', p ∈ l) (hk : vs.length ≤ k) (hz : ∀ z, z ≠ x → m' z = m z) :
    JoinW h₀ L s x m (FoundK G R news q fl (k + 1)) .next { s with heap := h, toks := tk } :=
  JoinW.intro F N hs ⟨vs, n, R', K, rfl, st, Nat.le_succ_of_le hk⟩ hz
theorem JoinW.path {G : List (Addr × Obj) → Value → Prop} {R news : List (Addr × Obj)} {q : Addr × Obj} {fl dq e1 e0 p : Addr} {D o1 o0 oi : Obj} {k : Nat} {h₀ : Heap} {s : Shared} {L : Addr} {x : Str} {m m' : Str → Option Value} {R' K : List (Addr × Obj)} {vs : List Value} {n : Nat} {h : Heap} {tk : Nat} {v : Value}
    (st : FState G R news q fl vs R' K) (F : Fr h₀ L h m') (N : News h₀ L h ((dq, D) :: (e1, o1) :: (e0, o0) :: (p, oi) :: (fl, listOf (vs ++ [v]).toArray n) :: R')) (hk : vs.length ≤ k)
    (l1 : AllLt dq ((fl, listOf vs.toArray n) :: R')) (l2 : dq < p) (l3 : p < e0) (l4 : e0 < e1) (mono : ∀ v, G K v → G ((dq, D) :: (e1, o1) :: (e0, o0) :: (p, oi) :: K) v) (hx : G ((dq, D) :: (e1, o1) :: (e0, o0) :: (p, oi) :: K) v) (hz : ∀ z, z ≠ x → m' z = m z) :
    JoinW h₀ L s x m (FoundK G R news q fl (k + 1)) .next { s with heap := h, toks := tk } := by
  have a1 : ∀ x ∈ news, x.1 < dq := lt_of_all l1 st.n.skip
  have a2 : ∀ x ∈ news, x.1 < p := fun x hx => Nat.lt_trans (a1 x hx) l2
  have a3 : ∀ x ∈ news, x.1 < e0 := fun x hx => Nat.lt_trans (a2 x hx) l3
  have a4 : ∀ x ∈ news, x.1 < e1 := fun x hx => Nat.lt_trans (a3 x hx) l4
  have f1 : fl < dq := l1.1
  have f2 := Nat.lt_trans f1 l2
  have f3 := Nat.lt_trans f2 l3
  have f4 := Nat.lt_trans f3 l4
  have sub : Sub R' ((dq, D) :: (e1, o1) :: (e0, o0) :: (p, oi) :: R') := Sub.skip (Sub.skip (Sub.skip (Sub.skip Sub.refl)))
  refine JoinW.intro F N (nw := (fl, listOf (vs ++ [v]).toArray n) :: (dq, D) :: (e1, o1) :: (e0, o0) :: (p, oi) :: R') (fun y hy => ?_) ⟨vs ++ [v], n, _, (dq, D) :: (e1, o1) :: (e0, o0) :: (p, oi) :: K, rfl, ⟨st.n.trans sub, Sub.skip (Sub.skip (Sub.skip (Sub.skip st.r))), ?_, sub _ st.q, Fresh.cons (Fresh.cons (Fresh.cons (Fresh.cons st.f a2) a3) a4) a1, ?_, all_snoc (fun v hv => mono v (st.g v hv)) hx⟩, by rw [List.length_append, List.length_singleton]; omega⟩ hz
  · simp only [List.mem_cons] at hy ⊢
    rcases hy with hy | hy | hy | hy | hy | hy <;> simp [hy]
  · intro y hy
    simp only [List.mem_cons] at hy ⊢
    rcases hy with hy | hy | hy | hy | hy
    · exact .inl hy
    · exact .inr (.inl hy)
    · exact .inr (.inr (.inl hy))
    · exact .inr (.inr (.inr (.inl hy)))
    · exact .inr (.inr (.inr (.inr (st.k _ hy))))
  · intro y hy
    simp only [List.mem_cons] at hy
    rcases hy with rfl | rfl | rfl | rfl | hy
    · exact Nat.ne_of_gt f1
    · exact Nat.ne_of_gt f4
    · exact Nat.ne_of_gt f3
    · exact Nat.ne_of_gt f2
    · exact st.ne _ hy
theorem BoundIn.elim {w : World} {news : List (Addr × Obj)} {b : Value} (h : BoundIn w news b) : ∃ (op : PySem.Str) (x dx : Addr) (place : Int) (v : Value) (t0 t1 t2 t3 t4 tp to tc : Tok), b = .ref x ∧ OpOk op ∧ ValOk w news op v ∧ (x, instObj 417 dx) ∈ news ∧ (dx, boundD w place op v t0 t1 t2 t3 t4 tp to tc) ∈ news := h
theorem all_mono {G : List (Addr × Obj) → Value → Prop} {vs : List Value} {K K' : List (Addr × Obj)} (h : ∀ v ∈ vs, G K v) (mono : ∀ v, G K v → G K' v) : ∀ v ∈ vs, G K' v := fun v hv => mono v (h v hv)
theorem ValOk.lit {w : World} {R l : List (Addr × Obj)} {op : PySem.Str} {v : Value} (h : ValOk w R op v) (hne : op ≠ Str.ofString "in") (hs : ∀ p ∈ R, p ∈ l) : LitIn w l v := by
  rcases h with ⟨_, h⟩ | ⟨e, _⟩
  · exact h.mono hs
  · exact absurd e hne
theorem RowPath.a {w : World} {R : List (Addr × Obj)} {v : Value} {k : Nat} {bl bh : Bool} {nl : Nat} (h : PathIn w R v (Str.ofString "rowid") false k bl bh nl true 2) (e : ledN k nl = 1) (hn : nl ≤ 3) : RowPath w R v := .inl ⟨k, bl, bh, nl, hn, h, e⟩
theorem RowPath.b {w : World} {R : List (Addr × Obj)} {v : Value} {k : Nat} {bl bh : Bool} {nl : Nat} (h : PathIn w R v (Str.ofString "rowid_range") false k bl bh nl false 2) (hn : nl ≤ 3) : RowPath w R v := .inr ⟨k, bl, bh, nl, hn, h⟩
theorem led_one {nl : Nat} (h : 1 ≤ nl ∧ nl ≤ 3) : ledN 0 nl = 1 := by unfold ledN; rw [if_neg (by omega)]
theorem op_bne {a b : PySem.Str} (h : (a != b) = true) : a ≠ b := by simpa using h
end
section
section
local macro_rules | `(tactic| k_handed) => `(tactic| first | exact Flag.handed (FB.flag (by with_reducible assumption)) | exact Flag.handed (FlagL.f (by with_reducible assumption)) | exact Flag.handed (FlagH.f (by with_reducible assumption)) | exact Flag.handed (ILen.flag (by with_reducible assumption)))
local macro_rules | `(tactic| lcg_off) => `(tactic| first | exact True.intro | with_reducible assumption | exact And.right ((by assumption)) | exact And.right (And.right ((by assumption))) | exact And.right (And.right (And.right ((by assumption)))) | exact And.right (And.right (And.right (And.right ((by assumption))))) | exact And.right (And.right (And.right (And.right (And.right ((by assumption)))))) | exact And.right (And.right (And.right (And.right (And.right (And.right ((by assumption))))))) | exact And.right (And.right (And.right (And.right (And.right (And.right (And.right ((by assumption)))))))) | exact And.right (And.right (And.right (And.right (And.right (And.right (And.right (And.right ((by assumption))))))))) | exact And.right (And.right (And.right (And.right (And.right (And.right (And.right (And.right (And.right ((by assumption)))))))))) | (refine And.intro ⟨by k_ne, by k_ne, by k_ne⟩ ?_; lcg_off))
set_option maxRecDepth 100000 in
set_option maxHeartbeats 8000000 in
theorem rowid_spec {w : World} {mean : ExcName → Option Value} {mg mb : Str → Option Value} {dp un : Nat} {gd : Option (List Code)} {cn : Str} {cs : Scope} {a : Addr} {ccd : Value} {cl : List (Str × Addr)} {outer : List Env} {A₀ : Around} {base h₀ : Heap} {L : Addr} {m : Str → Option Value} {s : Shared} {Q E : Value → Shared → Prop} {R news : List (Addr × Obj)} {tb lb : Addr} {bvs : List Value} {nb : Nat} (B : Below A₀ base outer h₀) (F : Fr h₀ L s.heap m) (X : Frag.In (KF w.params) h₀) (N : News h₀ L s.heap (news)) (T : Top VW (looseW VW LOOSE) mean mg mb h₀) (hk : cs.kind = .function)
    (hR : Sub R news) (hT : TableIn w R tb) (hlb : (lb, listOf bvs.toArray nb) ∈ R) (hlen : bvs.length ≤ 100) (hbs : ∀ v, v ∈ bvs → BoundIn w R v) (hd : dp < 450) (hu : un < 1500)
    (ret : ∀ (fl : Addr) (vs : List Value) (n : Nat) (R' K : List (Addr × Obj)) (h' : Heap) (tk' : Nat), Sub news R' → Sub R K → Sub K R' → Fresh R news K → (∀ x ∈ news, x.1 < fl) → (∀ p ∈ R', p.1 ≠ fl) → (∀ v ∈ vs, RowPath w K v) → vs.length ≤ 3 → Fr h₀ L h' m → News h₀ L h' ((fl, listOf vs.toArray n) :: R') → Q (.ref fl) { s with heap := h', toks := tk' }) :
    wpAny (model PySem.Challenge.rw_nt0116_01.row.prog w) (ktrTop dp un gd cn cs L a ccd cl outer) (call (.ref 518) [.ref tb, .ref lb]) Q E s := by
  k_with_none
  k_with "compareOp IsNot none" => ((k_here; k_dflt (refine' flag_isnot (b := _) ?k1 ?_; (case k1 => first | exact FB.flag (by with_reducible assumption) | exact FlagL.f (by with_reducible assumption) | exact FlagH.f (by with_reducible assumption) | exact ILen.flag (by with_reducible assumption)); k_whole)))
  k_with "compareOp Is none" => ((k_here; k_dflt (refine' flag_is (b := _) ?k1 ?_; (case k1 => first | exact FB.flag (by with_reducible assumption) | exact FlagL.f (by with_reducible assumption) | exact FlagH.f (by with_reducible assumption) | exact ILen.flag (by with_reducible assumption)); k_whole)))
  k_with "call ref" => ((k_here; (with_reducible show wpAny _ _ (call (Value.ref 474) [_]) _ _ _); k_dflt (refine' new_Path1 ?B ?F ?X ?N ?T ?K ?dd ?uu ?_; (case B => k_asm); (case F => k_asm); (case X => k_asm); (case N => k_asm); (case T => k_asm); (case K => first | exact rfl | assumption); (case dd => ktr_room); (case uu => ktr_units); k_whole); intro x' dx' e0' e1' h' tk' t0' t1' t2' t3' t4' t5' t6' t7' t8' t9' t10' t11' t12' t13' t14' t15' t16' l1' l2' l3' l4' F' N'; (have a2' := allLt_trans l1' l2'); (have a3' := allLt_trans a2' l3'); (have a4' := allLt_trans a3' l4'); (try simp only [AllLt, and_true] at l1'); (try simp only [AllLt, and_true] at a2'); (try simp only [AllLt, and_true] at a3'); (try simp only [AllLt, and_true] at a4'); (try replace l2' := ltN l2'); (try replace l3' := ltN l3'); (try replace l4' := ltN l4'); (try k_sweep); (try dsimp only); (try k_fold)))
  k_with "call ref" => ((k_here; (with_reducible show wpAny _ _ (call (Value.ref 485) _) _ _ _); k_dflt (refine' first_spec ?B ?F ?X ?N ?T ?K ?hlb ?hR ?hbs ?hf ?hc ?hT ?ho ?hy ?dd ?uu ?_; (case B => k_asm); (case F => k_asm); (case X => k_asm); (case N => k_asm); (case T => k_asm); (case K => first | exact rfl | assumption); (case hlb => first | k_mem | exact (Sub.trans (by with_reducible assumption) (fun p hp => by (repeat (first | exact hp | refine List.mem_cons_of_mem _ ?_)))).at _ (by assumption)); (case hR => first | with_reducible assumption | exact Sub.trans (by with_reducible assumption) (fun p hp => by (repeat (first | exact hp | refine List.mem_cons_of_mem _ ?_)))); (case hbs => assumption); (case hf => k_mem); (case hc => first | exact Or.inl rfl | exact Or.inr ⟨_, rfl⟩); (case hT => exact TableIn.mono (by assumption) (Sub.trans (by with_reducible assumption) (fun p hp => by (repeat (first | exact hp | refine List.mem_cons_of_mem _ ?_)))).at); (case ho => k_mem); (case hy => with_unfolding_all first | exact StrsAre.cons _ _ StrsAre.nil | exact StrsAre.cons _ _ (StrsAre.cons _ _ StrsAre.nil)); (case dd => ktr_room); (case uu => ktr_units); k_whole); intro v' b' h' tk' hfb' F' N'; (try k_sweep); (try dsimp only); (try k_fold)))
  k_with "call ref" => ((k_here; (with_reducible show wpAny _ _ (call (Value.ref 492) _) _ _ _); k_dflt (refine' puteq_spec ?B ?F ?X ?N ?T ?K ?hp ?hq ?he0 ?he1 ?hlt ?hs0 ?hs1 ?hb ?dd ?uu ?_; (case B => k_asm); (case F => k_asm); (case X => k_asm); (case N => k_asm); (case T => k_asm); (case K => first | exact rfl | assumption); (case hp => k_mem); (case hq => k_mem); (case he0 => k_all); (case he1 => k_all); (case hlt => assumption); (case hs0 => exact Nat.le_of_ble_eq_true rfl); (case hs1 => exact Nat.le_of_ble_eq_true rfl); (case hb => exact FB.one (by with_reducible assumption) (by assumption) (Sub.trans (by with_reducible assumption) (fun p hp => by (repeat (first | exact hp | refine List.mem_cons_of_mem _ ?_)))).at); (case dd => ktr_room); (case uu => ktr_units); k_whole); intro x' y' h' tk' F' N'; (try k_sweep); (try dsimp only); (try k_fold)))
  k_with "call ref" => ((k_here; (with_reducible show wpAny _ _ (call (Value.ref 513) _) _ _ _); k_dflt (refine' guess_at ?B ?F ?X ?N ?T ?K ?S ?hp ?hap ?he ?hk3 ?hlo ?hhi ?hil ?hper ?dd ?uu ?_; (case B => k_asm); (case F => k_asm); (case X => k_asm); (case N => k_asm); (case T => k_asm); (case K => first | exact rfl | assumption); (case S => repeat' (first | exact Sel.head | refine' Sel.tail ?_)); (case hp => k_mem); (case hap => k_all); (case he => k_mem); (case hk3 => first | omega | exact Nat.le_of_ble_eq_true rfl); (case hlo => first | with_reducible assumption | exact flagL0); (case hhi => first | with_reducible assumption | exact flagH0); (case hil => first | exact ilen0 | exact ILen.mono (by with_reducible assumption) (Sub.trans (by with_reducible assumption) (fun p hp => by (repeat (first | exact hp | refine List.mem_cons_of_mem _ ?_)))).at | exact ILen.mono (by with_reducible assumption) (fun p hp => by (repeat (first | exact hp | refine List.mem_cons_of_mem _ ?_)))); (case hper => first | decide | omega); (case dd => ktr_room); (case uu => ktr_units); k_whole); intro tr' tc' h' tk' F' N'; (try k_sweep); (try dsimp only); (try k_fold)))
  k_with "call ref" => ((k_here; (with_reducible show wpAny _ _ (call (Value.ref 506) _) _ _ _); k_dflt (refine' range_at ?B ?F ?X ?N ?T ?K ?S ?hp ?hap ?hlow ?hhigh ?dd ?uu ?_; (case B => k_asm); (case F => k_asm); (case X => k_asm); (case N => k_asm); (case T => k_asm); (case K => first | exact rfl | assumption); (case S => repeat' (first | exact Sel.head | refine' Sel.tail ?_)); (case hp => k_mem); (case hap => k_all); (case hlow => exact FB.bnd (by with_reducible assumption) (Sub.trans (by with_reducible assumption) (fun p hp => by (repeat (first | exact hp | refine List.mem_cons_of_mem _ ?_)))).at); (case hhigh => exact FB.bnd (by with_reducible assumption) (Sub.trans (by with_reducible assumption) (fun p hp => by (repeat (first | exact hp | refine List.mem_cons_of_mem _ ?_)))).at); (case dd => ktr_room); (case uu => ktr_units); k_whole); intro lo' hi' la' ha' h' tk' fl' fh' F' N'; (try k_sweep); (try dsimp only); (try k_fold)))
  k_with "call ref" => ((k_here; (with_reducible show wpAny _ _ (call (Value.ref 499) _) _ _ _); k_dflt (refine' list_at ?B ?F ?X ?N ?T ?K ?S ?hp ?hap ?hR ?hb ?dd ?uu ?_; (case B => k_asm); (case F => k_asm); (case X => k_asm); (case N => k_asm); (case T => k_asm); (case K => first | exact rfl | assumption); (case S => repeat' (first | exact Sel.head | refine' Sel.tail ?_)); (case hp => k_mem); (case hap => k_all); (case hb => exact FB.one (by with_reducible assumption) (by assumption) (fun _ h => h)); (case hR => first | with_reducible assumption | exact Sub.trans (by with_reducible assumption) (fun p hp => by (repeat (first | exact hp | refine List.mem_cons_of_mem _ ?_)))); (case dd => ktr_room); (case uu => ktr_units); k_whole); intro il' ia' nl' h' tk' hnl' hil' F' N'; (try k_sweep); (try dsimp only); (try k_fold)))
  k_with "call ref" => ((k_here; (with_reducible show wpAny _ _ (call (Value.ref 435) _) _ _ _); k_dflt (refine' surely_spec ?B ?F ?X ?N ?T ?K ?hv ?dd ?uu ?_; (case B => k_asm); (case F => k_asm); (case X => k_asm); (case N => k_asm); (case T => k_asm); (case K => first | exact rfl | assumption); (case hv => exact ValOk.lit (by with_reducible assumption) (by first | assumption | exact op_bne (by assumption)) (Sub.trans (by with_reducible assumption) (fun p hp => by (repeat (first | exact hp | refine List.mem_cons_of_mem _ ?_)))).at); (case dd => ktr_room); (case uu => ktr_units); k_whole); intro h' tk' F' N'; (try k_sweep); (try dsimp only); (try k_fold)))
  k_with "CompEnd" => ((k_dflt (refine' compEnd_sel ?F ?N ?S1 ?S2 ?S3 ?off ?hS ?_; (case F => k_asm); (case N => k_asm); (case S1 => repeat' (first | exact Sel.head | refine' Sel.tail ?_)); (case S2 => repeat' (first | exact Sel.head | refine' Sel.tail ?_)); (case S3 => repeat' (first | exact Sel.head | refine' Sel.tail ?_)); (case off => lcg_off); (case hS => first | lcg_src | exact Or.inr ⟨_, (Sub.trans (by with_reducible assumption) (fun p hp => by (repeat (first | exact hp | refine List.mem_cons_of_mem _ ?_)))).at _ (by assumption), rfl, _, rfl⟩); first | exact ⟨rfl, rfl⟩ | exact rfl)))
  k_with "call builtin:list.append" => ((k_here; (with_reducible show wpAny _ _ (call (Value.builtin _) [Value.ref _, _]) _ _ _); k_dflt (refine' append_led ?k1 ?k2 ?k3 ?z ?_; (case k1 => k_asm); (case k2 => k_asm); (case k3 => k_upd); (case z => omega); k_whole); intro h' F' N'; (try k_sweep)))
  k_with "exec Assign cons ListComp" => ((k_here; lct_look; k_dflt (refine LCt.Assign_ListComp_T (F₀ := by k_asm) (by rfl) (by with_unfolding_all rfl) (by with_unfolding_all rfl) (by decide) (by rfl) (by decide) (by rfl) (by rfl) (by rfl) ?_); k_dflt lct_toSrc))
  k_with "CompSrcT" => ((k_here; (rename (∀ v, v ∈ _ → BoundIn _ _ v) => hbs'); k_dflt (refine LCt.CompSrcT.ledger (by rfl) (by k_asm) (by k_asm) (by first | k_mem | exact (Sub.trans (by with_reducible assumption) (fun p hp => by (repeat (first | exact hp | refine List.mem_cons_of_mem _ ?_)))).at _ (by assumption)) (by rw [List.size_toArray, PySem.sizeLine_eq]; omega) ?_); intro g'; (refine' compT_keep (BoundIn _ _) (fun i v hv => hbs' v (List.mem_of_getElem? (by rw [← List.getElem?_toArray]; exact hv))) (fun ys' v' I' oI' C' oC' D' m' h' tk' E' hv' hC' hx' F' N' off' ne' => ?_) (fun ys' hys' hl' => ?_)); (first | ((obtain ⟨op', x', dx', pl', bv', t0', t1', t2', t3', t4', tp', to', tc', e', ho', hvo', hm1', hm2'⟩ := hv'.elim); subst e'; (have er2' := hvo'.ref); (obtain ⟨r', er'⟩ := er2'); subst er'; (rename Sub _ _ => hS'); (have hn1' := hS'.at _ hm1'); (have hn2' := hS'.at _ hm2')) | skip)))
  k_with "exec If" => ((k_here; (fail_if_success (with_reducible show wpAny _ _ _ (JoinW _ _ _ _ _ _) _ _)); (with_reducible show wpAny _ _ (exec (Stmt.If (Expr.Compare (Expr.Name (Str.ofString "equal") _) _ _ _) _ _ _) _) _ _ _); (rename Fr _ _ _ _ => lF'); (rename News _ _ _ _ => lN'); (rename Base _ _ => hB'); k_dflt (refine' join_row 0 (by assumption) hB' (by rfl) (by rfl) ?S ?st ?hk lF' lN' (fun vs' n' R' K' st' hk' hs1' hs2' hs3' N' => ?_) (fun u' vs' n' R' K' h' tk' st' hk' hs1' hs2' hs3' hs4' F' N' => ?_); (case S => repeat' (first | exact Sel.head | refine' Sel.tail ?_)); (case st => exact ⟨(fun p hp => by (repeat (first | exact hp | refine List.mem_cons_of_mem _ ?_))), Sub.refl, (Sub.trans hB' (fun p hp => by (repeat (first | exact hp | refine List.mem_cons_of_mem _ ?_)))), by k_mem, Fresh.self, by k_all, fun _ h => nomatch h⟩); (case hk => exact Nat.le_refl _))))
  k_with "exec If" => ((k_here; (fail_if_success (with_reducible show wpAny _ _ _ (JoinW _ _ _ _ _ _) _ _)); (with_reducible show wpAny _ _ (exec (Stmt.If (Expr.Compare (Expr.Name (Str.ofString "many") _) _ _ _) _ _ _) _) _ _ _); (rename Fr _ _ _ _ => lF'); (rename News _ _ _ _ => lN'); (rename Base _ _ => hB'); k_dflt (refine' join_row 1 (by assumption) hB' (by rfl) (by rfl) ?S ?st ?hk lF' lN' (fun vs' n' R' K' st' hk' hs1' hs2' hs3' N' => ?_) (fun u' vs' n' R' K' h' tk' st' hk' hs1' hs2' hs3' hs4' F' N' => ?_); (case S => repeat' (first | exact Sel.head | refine' Sel.tail ?_)); (case st => first | assumption | (rename FState _ _ _ _ _ _ _ _ => st0'; exact FState.grow st0' (fun p hp => by (repeat (first | exact hp | refine List.mem_cons_of_mem _ ?_))) (by k_all))); (case hk => assumption))))
  k_with "exec If" => ((k_here; (fail_if_success (with_reducible show wpAny _ _ _ (JoinW _ _ _ _ _ _) _ _)); (with_reducible show wpAny _ _ (exec (Stmt.If (Expr.BoolOp _ _ _) _ _ _) _) _ _ _); (rename Fr _ _ _ _ => lF'); (rename News _ _ _ _ => lN'); (rename Base _ _ => hB'); k_dflt (refine' join_row 2 (by assumption) hB' (by rfl) (by rfl) ?S ?st ?hk lF' lN' (fun vs' n' R' K' st' hk' hs1' hs2' hs3' N' => ?_) (fun u' vs' n' R' K' h' tk' st' hk' hs1' hs2' hs3' hs4' F' N' => ?_); (case S => repeat' (first | exact Sel.head | refine' Sel.tail ?_)); (case st => first | assumption | (rename FState _ _ _ _ _ _ _ _ => st0'; exact FState.grow st0' (fun p hp => by (repeat (first | exact hp | refine List.mem_cons_of_mem _ ?_))) (by k_all))); (case hk => assumption))))
  k_with "JoinW" => ((walk_plain_pass; (rename Fr _ _ _ _ => lF'); (rename News _ _ _ _ => lN'); (rename FState _ _ _ _ _ _ _ _ => st'); (first | (refine JoinW.path st' lF' lN' (by assumption) ?l1 (by assumption) (by assumption) (by assumption) (fun v hv => RowPath.mono hv (fun p hp => by (repeat (first | exact hp | refine List.mem_cons_of_mem _ ?_)))) ?hx (by first | exact fun _ _ => rfl | exact fun _ h => if_neg h); (case l1 => assumption); (case hx => first | exact RowPath.a ⟨_, _, _, _, _, _, _, _, _, _, _, _, _, _, _, _, _, _, _, _, _, _, _, _, _, _, _, _, _, _, _, _, rfl, by k_mem, by k_mem, by k_mem, rfl, by exact Nat.le_of_ble_eq_true rfl, by first | with_reducible assumption | exact flagL0, by first | with_reducible assumption | exact flagH0, by first | exact ilen0 | exact ILen.mono (by with_reducible assumption) (Sub.trans (FState.r (by with_reducible assumption)) (fun p hp => by (repeat (first | exact hp | refine List.mem_cons_of_mem _ ?_)))).at⟩ (by first | rfl | exact led_one (by assumption)) (by omega) | exact RowPath.b ⟨_, _, _, _, _, _, _, _, _, _, _, _, _, _, _, _, _, _, _, _, _, _, _, _, _, _, _, _, _, _, _, _, rfl, by k_mem, by k_mem, by k_mem, rfl, by exact Nat.le_of_ble_eq_true rfl, by first | with_reducible assumption | exact flagL0, by first | with_reducible assumption | exact flagH0, by first | exact ilen0 | exact ILen.mono (by with_reducible assumption) (Sub.trans (FState.r (by with_reducible assumption)) (fun p hp => by (repeat (first | exact hp | refine List.mem_cons_of_mem _ ?_)))).at⟩ (by omega))) | (refine JoinW.same st' lF' lN' (fun p hp => by (repeat (first | exact hp | refine List.mem_cons_of_mem _ ?_))) (by assumption) (by first | exact fun _ _ => rfl | exact fun _ h => if_neg h)))))
  have hB : Base R news := hR
  refine wpAny_call ?_
  k_dflt ktr_enter
  k_steps
  all_goals (rename News _ _ _ _ => kN; rename FState _ _ _ _ _ _ _ _ => st'; refine' ret _ _ _ _ _ _ _ st'.n st'.r st'.k st'.f ?lt st'.ne st'.g ?len ?f9 kN; (case f9 => k_asm); (case lt => first | exact lt_of_all (by assumption) Sub.refl | exact lt_of_all (And.right (by assumption)) Sub.refl); (case len => assumption))
end
end
section
section
variable {prog : Program} {w : World} {A : Around} {E : Value → Shared → Prop} {s : Shared} {env : Env} {h₀ : Heap} {x : Str} {body : List Stmt} {Q : Flow → Shared → Prop}
theorem range_num {r : Addr} {b : Int} {q1 q2 q3 : Tok} {m₀ : Str → Option Value} {news : List (Addr × Obj)} {t₀ : Tok} (y : Str) (f : Nat → Int)
    (hh : A.handled = none) (hr : IsRange s.heap r 0 b 1 q1 q2 q3) (hb : 0 ≤ b ∧ b ≤ 1000) (F : Fr h₀ env.locals s.heap m₀) (N : News h₀ env.locals s.heap news) (hv : m₀ y = some (.int (f 0) t₀))
    (turn : ∀ (i : Nat) (v : Value) t (it : Obj) I h tk, it.cls = .type "range_iterator" → (∀ p ∈ news, p.1 < I) → Fr h₀ env.locals h (fun z => if z = x then some v else if z = y then some (.int (f i) t) else m₀ z) → News h₀ env.locals h ((I, it) :: news) →
      wpAny (model prog w) A (execs body env) (UnrPost h₀ env.locals { s with heap := h, toks := tk } I it (fun m' n' => n' = news ∧ (∃ t', m' y = some (.int (f (i + 1)) t')) ∧ ∀ z, z ≠ x → z ≠ y → m' z = m₀ z) Q) E { s with heap := h, toks := tk })
    (done : ∀ t (u : Str → Option Value) h tk, Fr h₀ env.locals h (fun z => if z = x then u z else if z = y then some (.int (f b.toNat) t) else m₀ z) → News h₀ env.locals h news → Q .next { s with heap := h, toks := tk }) :
    wpAny (model prog w) A (pyIter (.ref r)) (fun it s₂ => LoopAtV prog w A h₀ env x body Q E it s₂) E s := by
  refine iter_rangeUnr (n := b.toNat) hh hr (small_one (by omega) (by omega) (by omega) (by omega)) (by have := rangeSize_nat 0 b; rw [Int.sub_zero] at this; exact this) F N fun I hI => ?_
  have key : ∀ (k i : Nat) (m : Str → Option Value) (nw : List (Addr × Obj)), i + k = b.toNat → nw = news → (∃ t, m y = some (.int (f i) t)) → (∀ z, z ≠ x → z ≠ y → m z = m₀ z) → RangeRest prog w A E h₀ env x body Q s I 0 b.toNat k i m nw := by
    intro k
    induction k with
    | zero =>
      rintro i m nw hi rfl ⟨t, ht⟩ hm
      refine RangeRest.zero fun h tk F' N' => ?_
      have hi2 : i = b.toNat := by omega
      subst hi2
      refine done t m h tk ?_ N'
      have e : (fun z => if z = x then m z else if z = y then some (.int (f b.toNat) t) else m₀ z) = m := by
        funext z
        by_cases h1 : z = x
        · rw [if_pos h1]
        · by_cases h2 : z = y
          · rw [if_neg h1, if_pos h2, h2, ht]
          · rw [if_neg h1, if_neg h2]; exact (hm z h1 h2).symm
      rw [e]; exact F'
    | succ k ih =>
      rintro i m nw hi rfl ⟨t, ht⟩ hm
      refine RangeRest.succ fun t2 h tk F' N' => ?_
      have e : (fun z => if z = x then some (Value.int (0 + (i : Int)) t2) else m z) = fun z => if z = x then some (Value.int (0 + (i : Int)) t2) else if z = y then some (.int (f i) t) else m₀ z := by
        funext z
        by_cases h1 : z = x
        · rw [if_pos h1, if_pos h1]
        · by_cases h2 : z = y
          · rw [if_neg h1, if_neg h1, if_pos h2, h2, ht]
          · rw [if_neg h1, if_neg h1, if_neg h2]; exact hm z h1 h2
      rw [e] at F'
      refine wpAny_mono (turn i _ t _ I h tk rfl hI F' N') (fun f' s₂ p => ?_) fun _ _ e => e
      have fin : UnrEnd h₀ env.locals { s with heap := h, toks := tk } I (itR (0 + ((i + 1 : Nat) : Int)) ((b.toNat : Int) - ((i + 1 : Nat) : Int))) (fun m' n' => n' = nw ∧ (∃ t', m' y = some (.int (f (i + 1)) t')) ∧ ∀ z, z ≠ x → z ≠ y → m' z = m₀ z) s₂ →
          UnrEnd h₀ env.locals { s with heap := h, toks := tk } I (itR (0 + ((i + 1 : Nat) : Int)) ((b.toNat : Int) - ((i + 1 : Nat) : Int))) (RangeRest prog w A E h₀ env x body Q s I 0 b.toNat k (i + 1)) s₂ := by
        rintro ⟨h2, tk2, m2, news2, e2, F2, N2, ho2, g1, g2, g3⟩
        exact ⟨h2, tk2, m2, news2, e2, F2, N2, ho2, ih (i + 1) m2 news2 (by omega) g1 g2 g3⟩
      cases f' with
      | ret v => exact p
      | brk => exact p
      | next => exact fin p
      | cont => exact fin p
  exact key b.toNat 0 m₀ news (by omega) rfl ⟨_, hv⟩ fun _ _ _ => rfl
end
theorem ledN_le3 {k nl : Nat} (h : k ≤ 3) : ledN k nl ≤ 4 := by unfold ledN; split <;> omega
noncomputable def div4 (r : Int) : Nat → Int
  | 0 => r
  | n + 1 => (div4 r n).fdiv 4
theorem div4_ok {r : Int} (h : 0 ≤ r ∧ r ≤ 1000) : ∀ n, 0 ≤ div4 r n ∧ div4 r n ≤ 1000
  | 0 => h
  | n + 1 => by
    have := div4_ok h n
    show 0 ≤ (div4 r n).fdiv 4 ∧ (div4 r n).fdiv 4 ≤ 1000
    rw [Int.fdiv_eq_ediv_of_nonneg _ (by decide)]; omega
noncomputable def iB (b : Bool) : Int := if b then 1 else 0
theorem iB_ok (b : Bool) : 0 ≤ iB b ∧ iB b ≤ 1 := by cases b <;> decide
theorem div4_q {r : Int} (bl bh : Bool) : div4 r (iB bl + iB bh).toNat = gQ bh (gQ bl r) := by
  cases bl <;> cases bh <;> rfl
section
variable {M : Model} {A : Around} {E : Value → Shared → Prop} {h₀ : Heap} {x : Str} {Q : Flow → Shared → Prop} {T : Sem Flow} {s : Shared} {L : Addr} {m : Str → Option Value} {news : List (Addr × Obj)}
theorem join_values {nw : List (Addr × Obj)} {il : Value} {nl : Nat} (hil : ILen nw il nl) (_ : Fr h₀ L s.heap m) (_ : News h₀ L s.heap news) (first : wpAny M A T (JoinEnd h₀ L s (Str.ofString "values") m news (fun r' => r' = if nl = 0 then 1 else (nl : Int))) E s)
    (next : ∀ r' t' h tk, (r' = if nl = 0 then 1 else (nl : Int)) → (1 ≤ r' ∧ r' ≤ 3) → Fr h₀ L h (fun z => if z = Str.ofString "values" then some (.int r' t') else m z) → News h₀ L h news → Q .next { s with heap := h, toks := tk }) : wpAny M A T Q E s :=
  join_int _ _ first fun r' t' h tk e F N => next r' t' h tk e (by have := hil.le; rw [e]; split <;> omega) F N
theorem join_rows {r led many : Int} {uq : Bool} {t1 t2 t3 : Tok} (_ : m (Str.ofString "rows") = some (.int r t1)) (_ : m (Str.ofString "led") = some (.int led t2)) (_ : m (Str.ofString "is_unique") = some (.bool uq)) (_ : m (Str.ofString "many_columns") = some (.int many t3)) (hr : 0 ≤ r ∧ r ≤ 1000)
    (_ : Fr h₀ L s.heap m) (_ : News h₀ L s.heap news) (first : wpAny M A T (JoinEnd h₀ L s (Str.ofString "rows") m news (fun r' => r' = if (uq && decide (led = many)) then 1 else max r 1)) E s)
    (next : ∀ r' t' h tk, (r' = if (uq && decide (led = many)) then 1 else max r 1) → (0 ≤ r' ∧ r' ≤ 1000) → Fr h₀ L h (fun z => if z = Str.ofString "rows" then some (.int r' t') else m z) → News h₀ L h news → Q .next { s with heap := h, toks := tk }) : wpAny M A T Q E s :=
  join_int _ _ first fun r' t' h tk e F N => next r' t' h tk e (by rw [e]; split <;> omega) F N
theorem join_cost {r per led ends vals : Int} {t1 t2 t3 t4 t5 : Tok} (_ : m (Str.ofString "rows") = some (.int r t1)) (_ : m (Str.ofString "per_row") = some (.int per t2)) (_ : m (Str.ofString "led") = some (.int led t3)) (_ : m (Str.ofString "ends") = some (.int ends t4)) (_ : m (Str.ofString "values") = some (.int vals t5))
    (_ : Fr h₀ L s.heap m) (_ : News h₀ L s.heap news) (first : wpAny M A T (JoinEnd h₀ L s (Str.ofString "cost") m news (fun r' => r' = r * per + (if led + ends > 0 then 4 * vals else 0))) E s)
    (next : ∀ r' t' h tk, (r' = r * per + (if led + ends > 0 then 4 * vals else 0)) → Fr h₀ L h (fun z => if z = Str.ofString "cost" then some (.int r' t') else m z) → News h₀ L h news → Q .next { s with heap := h, toks := tk }) : wpAny M A T Q E s :=
  join_int _ _ first next
end
theorem due_rows {k nl : Nat} {bl bh sg : Bool} {led r0 r1 r2 vals v : Int} (e0 : r0 = gBase (ledN k nl)) (e1 : r1 = gQ bh (gQ bl r0)) (e2 : r2 = if sg then 1 else max r1 1) (ev : vals = if nl = 0 then 1 else (nl : Int)) (e3 : v = min (r2 * vals) 1000) : v = gRows k bl bh nl sg := by
  subst e0 e1 e2 ev e3
  rw [due_led]
  rfl
theorem due_cost {k nl : Nat} {bl bh sg : Bool} {led ends rows per vals c : Int} (el : led = (ledN k nl : Int)) (ee : ends = iB bl + iB bh) (er : rows = gRows k bl bh nl sg) (ev : vals = if nl = 0 then 1 else (nl : Int)) (ec : c = rows * per + (if led + ends > 0 then 4 * vals else 0)) : c = gCost k bl bh nl sg per := by
  subst el ee er ev ec
  unfold gCost
  have e : ((ledN k nl : Int) + (iB bl + iB bh) > 0) ↔ ((decide (k ≠ 0) || bl || bh || decide (nl ≠ 0)) = true) := by
    unfold ledN
    cases bl <;> cases bh <;> by_cases hk : k = 0 <;> by_cases hn : nl = 0 <;> simp [iB, hk, hn] <;> omega
  by_cases h : (ledN k nl : Int) + (iB bl + iB bh) > 0
  · rw [if_pos h, if_pos (e.mp h)]
  · rw [if_neg h, if_neg (fun q => h (e.mpr q))]
end
section
theorem menu_base {t0 t1 t2 t3 t4 : Tok} {d : Int} {k : Nat} {v : Value} (hd : d = (k : Int)) (hk : k ≤ 4) (h : ([Value.int 1000 t0, .int 100 t1, .int 10 t2, .int 1 t3, .int 0 t4] : List Value)[d.toNat]? = some v) : ∃ t, v = .int (gBase k) t := by
  subst hd
  rcases (show k = 0 ∨ k = 1 ∨ k = 2 ∨ k = 3 ∨ k = 4 by omega) with rfl | rfl | rfl | rfl | rfl <;> (simp at h; exact ⟨_, h.symm⟩)
theorem led_is {k nl : Nat} {v : Int} (h : v = iB (decide (nl ≠ 0))) : (k : Int) + v = (ledN k nl : Int) := by
  subst h; unfold ledN iB; by_cases h : nl = 0 <;> simp [h]
theorem menu_led {t0 t1 t2 t3 t4 : Tok} {k nl : Nat} {v : Int} {x : Value} (ev : v = iB (decide (nl ≠ 0))) (hk : k ≤ 3) (h : ([Value.int 1000 t0, .int 100 t1, .int 10 t2, .int 1 t3, .int 0 t4] : List Value)[((k : Int) + v).toNat]? = some x) : ∃ t, x = .int (gBase (ledN k nl)) t :=
  menu_base (led_is ev) (ledN_le3 hk) h
theorem max1_of {r w : Int} (h : w = max 1 r) : w = max r 1 := by omega
theorem due_w1 {uq : Bool} {led many r : Int} (h : uq = true) (h2 : led = many) : (1 : Int) = if (uq && decide (led = many)) = true then 1 else max r 1 := by rw [h, h2]; simp
theorem due_w2 {uq : Bool} {led many r : Int} (h2 : ¬ led = many) : (if r > 1 then r else 1) = if (uq && decide (led = many)) = true then 1 else max r 1 := by simp [h2]; split <;> omega
theorem due_w3 {uq : Bool} {led many r : Int} (h : uq = false) : (if r > 1 then r else 1) = if (uq && decide (led = many)) = true then 1 else max r 1 := by rw [h]; simp; split <;> omega
theorem due_c1 {r per vals led ends v1 v2 : Int} (e1 : v1 = r * per) (e2 : v2 = 4 * vals) (h : led + ends > 0) : v1 + v2 = r * per + (if led + ends > 0 then 4 * vals else 0) := by rw [if_pos h, e1, e2]
theorem due_c2 {r per vals led ends v1 : Int} (e1 : v1 = r * per) (h : ¬ led + ends > 0) : v1 + 0 = r * per + (if led + ends > 0 then 4 * vals else 0) := by rw [if_neg h, e1]
theorem due_rows3 {k nl : Nat} {bl bh uq : Bool} {v1 v2 v3 r2 vals v many : Int} (er : r2 = if (uq && decide ((k : Int) + v1 = many)) = true then 1 else max (div4 (gBase (ledN k nl)) (v2 + v3).toNat) 1) (em : v = r2 * vals) (e1 : v1 = iB (decide (nl ≠ 0))) (e2 : v2 = iB bl) (e3 : v3 = iB bh) (ev : vals = if nl = 0 then 1 else (nl : Int)) :
    (if v < 1000 then v else 1000) = gRows k bl bh nl (uq && decide ((ledN k nl : Int) = many)) := by
  rw [led_is e1, e2, e3, div4_q] at er
  refine due_rows (led := 0) rfl rfl er ev ?_
  rw [em]; split <;> omega
theorem due_cost3 {k nl : Nat} {bl bh uq : Bool} {v1 v2 v3 r2 vals v many per c : Int} (er : r2 = if (uq && decide ((k : Int) + v1 = many)) = true then 1 else max (div4 (gBase (ledN k nl)) (v2 + v3).toNat) 1) (em : v = r2 * vals) (ec : c = (if v < 1000 then v else 1000) * per + (if ((k : Int) + v1) + (v2 + v3) > 0 then 4 * vals else 0)) (e1 : v1 = iB (decide (nl ≠ 0))) (e2 : v2 = iB bl) (e3 : v3 = iB bh) (ev : vals = if nl = 0 then 1 else (nl : Int)) :
    c = gCost k bl bh nl (uq && decide ((ledN k nl : Int) = many)) per := by
  have hr := due_rows3 er em e1 e2 e3 ev
  refine due_cost (led := (k : Int) + v1) (ends := v2 + v3) (led_is e1) (by rw [e2, e3]) hr ev ec
theorem due_s1 {uq x y : Bool} (h : uq = false) : false = (uq && x && y) := by rw [h]; rfl
theorem due_s1' {uq x y : Bool} (h : uq = false) : uq = (uq && x && y) := by rw [h]; rfl
theorem due_s2 {uq y : Bool} {k nl : Nat} {v1 many : Int} (h : ¬ (k : Int) + v1 = many) (e1 : v1 = iB (decide (nl ≠ 0))) : false = (uq && decide ((ledN k nl : Int) = many) && y) := by
  rw [led_is e1] at h; simp [h]
theorem due_s4 {uq y : Bool} {k nl : Nat} {v1 many : Int} (h : (k : Int) + v1 ≠ many) (e1 : v1 = iB (decide (nl ≠ 0))) : ((k : Int) + v1 == many) = (uq && decide ((ledN k nl : Int) = many) && y) := by
  rw [led_is e1] at h ⊢; simp [h]
theorem due_s3 {uq : Bool} {k nl : Nat} {v1 many : Int} (h0 : uq = true) (h : (k : Int) + v1 = many) (e1 : v1 = iB (decide (nl ≠ 0))) : (!decide (nl ≠ 0)) = (uq && decide ((ledN k nl : Int) = many) && decide (nl = 0)) := by
  rw [led_is e1] at h; simp [h, h0]
section
variable {prog : Program} {w : World} {A : Around} {E : Value → Shared → Prop} {s : Shared} {h₀ : Heap} {L : Addr} {m : Str → Option Value} {news : List (Addr × Obj)} {Q : Value → Shared → Prop} {a b : Int} {t u : Tok}
theorem int_b {b : Bool} (h : ∀ v, v = iB b → (0 ≤ v ∧ v ≤ 1) → Q (.int v s.toks) { s with toks := s.toks + 1 }) : wpAny (model prog w) A (call (.type "int") [.bool b]) Q E s :=
  call_int_bool (h _ rfl (iB_ok b))
theorem fdiv4 (ha : 0 ≤ a ∧ a ≤ 1000) (h : Q (.int (a.fdiv 4) s.toks) { s with toks := s.toks + 1 }) : wpAny (model prog w) A (binaryOp .FloorDiv (.int a t) (.int 4 u)) Q E s :=
  floordiv_int (by decide) h (Or.inl (PyProof.noPylong_small (by omega)))
theorem max_due (ha : 0 ≤ a ∧ a ≤ 1000) (hh : A.handled = none) (F : Fr h₀ L s.heap m) (N : News h₀ L s.heap news)
    (h : ∀ v t' h' tk, v = max 1 a → Fr h₀ L h' m → News h₀ L h' news → Q (.int v t') { s with heap := h', toks := tk }) : wpAny (model prog w) A (call (.builtin "max") [.int 1 t, .int a u]) Q E s :=
  max_two_N hh F N fun h' tk F' N' => h _ _ h' tk (by split <;> omega) F' N'
theorem min_due (ha : 0 ≤ a ∧ a ≤ 4000) (hh : A.handled = none) (F : Fr h₀ L s.heap m) (N : News h₀ L s.heap news)
    (h : ∀ v t' h' tk, v = min a 1000 → (0 ≤ v ∧ v ≤ 1000) → Fr h₀ L h' m → News h₀ L h' news → Q (.int v t') { s with heap := h', toks := tk }) : wpAny (model prog w) A (call (.builtin "min") [.int 1000 t, .int a u]) Q E s :=
  min_two_N hh F N fun h' tk F' N' => h _ _ h' tk (by split <;> omega) (by split <;> omega) F' N'
end
section
local macro_rules | `(tactic| k_handed) => `(tactic| first | exact Flag.handed (FlagL.f (by with_reducible assumption)) | exact Flag.handed (FlagH.f (by with_reducible assumption)) | exact Flag.handed (ILen.flag (by with_reducible assumption)))
set_option maxRecDepth 100000 in
set_option maxHeartbeats 8000000 in
theorem due_spec {w : World} {mean : ExcName → Option Value} {mg mb : Str → Option Value} {dp un : Nat} {gd : Option (List Code)} {cn : Str} {cs : Scope} {a : Addr} {ccd : Value} {cl : List (Str × Addr)} {outer : List Env} {A₀ : Around} {base h₀ : Heap} {L : Addr} {m : Str → Option Value} {s : Shared} {Q E : Value → Shared → Prop} {news : List (Addr × Obj)} {p dq e0 e1 : Addr} {es : List Value} {n nl : Nat} {kd ix lo hi la ha il ia cv ds sg rw co : Value} {bl bh uq : Bool} {many per : Int} {t0 t1 t2 t3 t4 t5 t6 t7 t8 t9 t10 t11 t12 t13 t14 tm tp : Tok} (B : Below A₀ base outer h₀) (F : Fr h₀ L s.heap m) (X : Frag.In (KF w.params) h₀) (N : News h₀ L s.heap (news)) (T : Top VW (looseW VW LOOSE) mean mg mb h₀) (hk : cs.kind = .function)
    (hq : (dq, pathD w kd ix e0 e1 lo hi la ha il ia cv ds sg rw co t0 t1 t2 t3 t4 t5 t6 t7 t8 t9 t10 t11 t12 t13 t14) ∈ news)
    (hp : (p, instObj 474 dq) ∈ news) (he : (e0, listOf es.toArray n) ∈ news) (hk : es.length ≤ 3) (hlo : FlagL lo bl) (hhi : FlagH hi bh) (hil : ILen news il nl) (hper : 1 ≤ per ∧ per ≤ 4) (hd : dp < 470) (hu : un < 1700)
    (ret : ∀ (u : Addr) (tr tc : Tok) (nu : Nat) (h' : Heap) (tk' : Nat), AllLt u news → Fr h₀ L h' m →
      News h₀ L h' ((u, ({ cls := .type "tuple", data := .seq #[.int (gRows es.length bl bh nl (uq && decide ((ledN es.length nl : Int) = many))) tr, .int (gCost es.length bl bh nl (uq && decide ((ledN es.length nl : Int) = many)) per) tc, .bool (uq && decide ((ledN es.length nl : Int) = many) && decide (nl = 0))] nu } : Obj)) :: news) → Q (.ref u) { s with heap := h', toks := tk' }) :
    wpAny (model PySem.Challenge.rw_nt0116_01.row.prog w) (ktrTop dp un gd cn cs L a ccd cl outer) (call (.ref 696) [.ref p, .bool uq, .int many tm, .int per tp]) Q E s := by
  k_with_none
  k_with "call type:int" => ((k_here; (with_reducible show wpAny _ _ (call (Value.type "int") [Value.bool _]) _ _ _); (refine int_b ?_); intro v' ev' hv'))
  k_with "binaryOp Mult int int" => ((k_here; (refine mul_gen (by omega) (by omega) ?_); intro v' ev' hv'))
  k_with "binaryOp FloorDiv int int" => ((k_here; (refine fdiv4 (div4_ok (by omega) _) ?_)))
  k_with "call builtin:max" => ((k_here; (rename Fr _ _ _ _ => lF'); (rename News _ _ _ _ => lN'); (refine max_due (by omega) (by rfl) lF' lN' ?_); intro v' t' h' tk' ev' F' N'; (try k_sweep); (try dsimp only); (try k_fold)))
  k_with "call builtin:min" => ((k_here; (rename Fr _ _ _ _ => lF'); (rename News _ _ _ _ => lN'); (refine min_due (by omega) (by rfl) lF' lN' ?_); intro v' t' h' tk' ev' hv' F' N'; (try k_sweep); (try dsimp only); (try k_fold)))
  k_with "subscriptTail" => ((k_here; (with_reducible show wpAny _ _ (subscriptTail _ _ (Value.ref _) (Value.int _ _)) _ _ _); k_dflt (refine' item_led ?k1 ?k2 ?k3 ?k4 ?k5 ?_; (case k1 => k_asm); (case k2 => k_mem); (case k3 => omega); (case k4 => simp only [List.length_cons, List.length_nil]; omega); (case k5 => simp only [List.length_cons, List.length_nil]; omega); k_whole); intro v' hv' hi'; (have hi2' := menu_led (by assumption) (by assumption) hi'); (obtain ⟨t', er'⟩ := hi2'); subst er'))
  k_with "exec For Name Call cons nil" => ((k_here; (rename Fr _ _ _ _ => lF'); (with_unfolding_all refine' For_invVF lF' ?k1 ?k2 ?_; (case k1 => exact rfl); (case k2 => exact rfl); k_whole)))
  k_with "pyIter ref" => ((k_here; (with_reducible show wpAny _ _ (pyIter (Value.ref _)) (fun it s₂ => LoopAtV _ _ _ _ _ _ _ _ _ it s₂) _ _); (rename Fr _ _ _ _ => lF'); (rename News _ _ _ _ => lN'); (with_unfolding_all refine' range_num (Str.ofString "rows") (div4 (gBase _)) (by rfl) (by assumption) (by omega) lF' lN' (by rfl) (fun i' v' t' it' I' h' tk' hit' hI' F' N' => ?_) (fun t' u' h' tk' F' N' => ?_)); (try k_lt hI'); (all_goals (try k_fold))))
  k_with "exec Assign" => ((k_here; (fail_if_success (with_reducible show wpAny _ _ _ (JoinEnd _ _ _ _ _ _ _) _ _)); (with_reducible show wpAny _ _ (exec (Stmt.Assign [Expr.Name (Str.ofString "values") _] _ _) _) _ _ _); (rename Fr _ _ _ _ => lF'); (rename News _ _ _ _ => lN'); (rename ILen _ _ _ => hil'); k_dflt (refine' join_values hil' lF' lN' ?_ (fun r' t' h' tk' er' hr' F' N' => ?_))))
  k_with "exec Assign" => ((k_here; (fail_if_success (with_reducible show wpAny _ _ _ (JoinEnd _ _ _ _ _ _ _) _ _)); (with_reducible show wpAny _ _ (exec (Stmt.Assign [Expr.Name (Str.ofString "rows") _] (Expr.IfExp _ _ _ _) _) _) _ _ _); (rename Fr _ _ _ _ => lF'); (rename News _ _ _ _ => lN'); k_dflt (refine' join_rows (by rfl) (by rfl) (by rfl) (by rfl) (div4_ok (gBase_ok _) _) lF' lN' ?_ (fun r' t' h' tk' er' hr' F' N' => ?_))))
  k_with "exec Assign" => ((k_here; (fail_if_success (with_reducible show wpAny _ _ _ (JoinEnd _ _ _ _ _ _ _) _ _)); (with_reducible show wpAny _ _ (exec (Stmt.Assign [Expr.Name (Str.ofString "cost") _] _ _) _) _ _ _); (rename Fr _ _ _ _ => lF'); (rename News _ _ _ _ => lN'); k_dflt (refine' join_cost (by rfl) (by rfl) (by rfl) (by rfl) (by rfl) lF' lN' ?_ (fun r' t' h' tk' er' F' N' => ?_))))
  k_with "JoinEnd" => (((rename Fr _ _ _ _ => lF'); (rename News _ _ _ _ => lN'); (refine JoinEnd.intro lF' lN' (fun p hp => by (repeat (first | exact hp | refine List.mem_cons_of_mem _ ?_))) (by rfl) (by first | exact fun _ _ => rfl | exact fun _ h => if_neg h) (by first | exact (if_neg (by assumption)).symm | exact (if_pos (Decidable.not_not.mp (by assumption))).symm | exact due_w1 (by assumption) (by assumption) | exact due_w2 (by assumption) | exact due_w3 (by assumption) | exact due_c1 (by assumption) (by assumption) (by assumption) | exact due_c2 (by assumption) (by assumption) | (trace_state; fail)))))
  k_with "UnrEnd" => ((refine UnrEnd.intro (by assumption) (by assumption) _ (fun p hp => hp) (by k_all) ⟨rfl, ⟨_, rfl⟩, ?_⟩; intro z h1 h2; simp only [if_neg h1, if_neg h2]))
  k_with "compareOp IsNot none" => ((k_here; k_dflt (refine' flag_isnot (b := _) ?k1 ?_; (case k1 => first | exact FlagL.f (by with_reducible assumption) | exact FlagH.f (by with_reducible assumption) | exact ILen.flag (by with_reducible assumption)); k_whole)))
  k_with "compareOp Is none" => ((k_here; k_dflt (refine' flag_is (b := _) ?k1 ?_; (case k1 => first | exact FlagL.f (by with_reducible assumption) | exact FlagH.f (by with_reducible assumption) | exact ILen.flag (by with_reducible assumption)); k_whole)))
  k_with "call builtin:len" => ((k_here; (with_reducible show wpAny _ _ (call (Value.builtin "len") [_]) _ _ _); (rename ILen _ _ _ => hil'); (rename News _ _ _ _ => lN'); (refine len_il hil' (by assumption) lN' (fun p hp => by (repeat (first | exact hp | refine List.mem_cons_of_mem _ ?_))) ?_); (have hil2' := hil'.le)))
  have ret' : ∀ (rw' co' : Int) (sg' : Bool) (u : Addr) (tr tc : Tok) (nu : Nat) (h' : Heap) (tk' : Nat), rw' = gRows es.length bl bh nl (uq && decide ((ledN es.length nl : Int) = many)) → co' = gCost es.length bl bh nl (uq && decide ((ledN es.length nl : Int) = many)) per → sg' = (uq && decide ((ledN es.length nl : Int) = many) && decide (nl = 0)) → AllLt u news → Fr h₀ L h' m →
      News h₀ L h' ((u, ({ cls := .type "tuple", data := .seq #[.int rw' tr, .int co' tc, .bool sg'] nu } : Obj)) :: news) → Q (.ref u) { s with heap := h', toks := tk' } := by
    rintro _ _ _ u tr tc nu h' tk' rfl rfl rfl h1 h2 h3
    exact ret u tr tc nu h' tk' h1 h2 h3
  clear ret
  refine wpAny_call ?_
  k_dflt ktr_enter
  k_steps
  all_goals (rename News _ _ _ _ => kN; refine' ret' _ _ _ _ _ _ _ _ _ ?q1 ?q2 ?q3 ?a9 ?f9 (news_sub kN (sub_cons ?g9 ?g8)); (case f9 => k_asm); (case g9 => exact List.Mem.head _); (case g8 => exact fun p hp => by (repeat (first | exact hp | refine List.mem_cons_of_mem _ ?_))); (case a9 => first | assumption | exact allLt_of (by assumption) | exact And.right (by assumption)); (case q1 => exact due_rows3 (by assumption) (by assumption) (by assumption) (by assumption) (by assumption) (by assumption)); (case q2 => exact due_cost3 (by assumption) (by assumption) (by assumption) (by assumption) (by assumption) (by assumption) (by assumption)); (case q3 => first | exact due_s1 (by assumption) | exact due_s1' (by assumption) | exact due_s2 (by assumption) (by assumption) | exact due_s4 (by assumption) (by assumption) | exact due_s3 (by assumption) (by assumption) (by assumption)))
end
end
section
noncomputable abbrev sourceD (w : World) (v0 v1 v2 v3 v4 v5 v6 : Value) (e0 : Addr) (t0 t1 t2 t3 t4 t5 t6 t7 t8 : Tok) : Obj := dictOf [⟨PyData.keyHash w.params (Str.ofString "number"), .str (Str.ofString "number") t0, v0⟩, ⟨PyData.keyHash w.params (Str.ofString "alias"), .str (Str.ofString "alias") t1, v1⟩, ⟨PyData.keyHash w.params (Str.ofString "table"), .str (Str.ofString "table") t2, v2⟩, ⟨PyData.keyHash w.params (Str.ofString "columns"), .str (Str.ofString "columns") t3, v3⟩, ⟨PyData.keyHash w.params (Str.ofString "select"), .str (Str.ofString "select") t4, v4⟩, ⟨PyData.keyHash w.params (Str.ofString "kind"), .str (Str.ofString "kind") t5, v5⟩, ⟨PyData.keyHash w.params (Str.ofString "hint"), .str (Str.ofString "hint") t6, v6⟩, ⟨PyData.keyHash w.params (Str.ofString "on"), .str (Str.ofString "on") t7, .none⟩, ⟨PyData.keyHash w.params (Str.ofString "using"), .str (Str.ofString "using") t8, .ref e0⟩] 9
section
set_option maxRecDepth 100000 in
set_option maxHeartbeats 8000000 in
theorem scan_spec {w : World} {mean : ExcName → Option Value} {mg mb : Str → Option Value} {dp un : Nat} {gd : Option (List Code)} {cn : Str} {cs : Scope} {a : Addr} {ccd : Value} {cl : List (Str × Addr)} {outer : List Env} {A₀ : Around} {base h₀ : Heap} {L : Addr} {m : Str → Option Value} {s : Shared} {Q E : Value → Shared → Prop} {news : List (Addr × Obj)} {so dso tb eu : Addr} {v0 v1 v3 v4 v5 v6 : Value} {q0 q1 q2 q3 q4 q5 q6 q7 q8 : Tok} (B : Below A₀ base outer h₀) (F : Fr h₀ L s.heap m) (X : Frag.In (KF w.params) h₀) (N : News h₀ L s.heap (news)) (T : Top VW (looseW VW LOOSE) mean mg mb h₀) (hk : cs.kind = .function)
    (hso : (so, instObj 584 dso) ∈ news) (hds : (dso, sourceD w v0 v1 (.ref tb) v3 v4 v5 v6 eu q0 q1 q2 q3 q4 q5 q6 q7 q8) ∈ news) (hd : dp < 480) (hu : un < 1800)
    (ret : ∀ (p dq e0 e1 : Addr) (tk tr tc t0 t1 t2 t3 t4 t5 t6 t7 t8 t9 t10 t11 t12 t13 t14 : Tok) (h' : Heap) (tk' : Nat), AllLt dq news → dq < p → p < e0 → e0 < e1 → Fr h₀ L h' m →
      News h₀ L h' ((e1, listOf #[] 0) :: (e0, listOf #[] 0) :: (p, instObj 474 dq) :: (dq, pathD w (.str (Str.ofString "scan") tk) .none e0 e1 .none .none .none .none .none .none (.bool false) (.bool false) (.bool false) (.int 1000 tr) (.int 2000 tc) t0 t1 t2 t3 t4 t5 t6 t7 t8 t9 t10 t11 t12 t13 t14) :: news) → Q (.ref p) { s with heap := h', toks := tk' }) :
    wpAny (model PySem.Challenge.rw_nt0116_01.row.prog w) (ktrTop dp un gd cn cs L a ccd cl outer) (call (.ref 546) [.ref so]) Q E s := by
  k_with_none
  k_with "call ref" => ((k_here; (with_reducible show wpAny _ _ (call (Value.ref 474) [_]) _ _ _); k_dflt (refine' new_Path1 ?B ?F ?X ?N ?T ?K ?dd ?uu ?_; (case B => k_asm); (case F => k_asm); (case X => k_asm); (case N => k_asm); (case T => k_asm); (case K => first | exact rfl | assumption); (case dd => ktr_room); (case uu => ktr_units); k_whole); intro x' dx' e0' e1' h' tk' t0' t1' t2' t3' t4' t5' t6' t7' t8' t9' t10' t11' t12' t13' t14' t15' t16' l1' l2' l3' l4' F' N'; (have a2' := allLt_trans l1' l2'); (have a3' := allLt_trans a2' l3'); (have a4' := allLt_trans a3' l4'); (try simp only [AllLt, and_true] at l1'); (try simp only [AllLt, and_true] at a2'); (try simp only [AllLt, and_true] at a3'); (try simp only [AllLt, and_true] at a4'); (try replace l2' := ltN l2'); (try replace l3' := ltN l3'); (try replace l4' := ltN l4'); (try k_sweep); (try dsimp only); (try k_fold)))
  refine wpAny_call ?_
  k_dflt ktr_enter
  k_steps
  all_goals (refine' ret _ _ _ _ _ _ _ _ _ _ _ _ _ _ _ _ _ _ _ _ _ _ _ _ ?_ ?_ ?_ ?_ ?f9 ?g9; (case f9 => k_asm); (case g9 => k_asm); all_goals assumption)
end
end
section
section
variable {prog : Program} {w : World} {A : Around} {E : Value → Shared → Prop} {s : Shared} {h₀ : Heap} {L a : Addr} {m : Str → Option Value} {vs : List Value} {ns : List Int} {Q : Value → Shared → Prop}
theorem base_list {h : Heap} (hl : h₀.IsList a vs.toArray) (F : Fr h₀ L h m) : h.IsList a vs.toArray := by
  obtain ⟨o, e, r⟩ := hl
  exact ⟨o, F.keep _ _ e, r⟩
theorem len_base (F : Fr h₀ L s.heap m) (hl : h₀.IsList a vs.toArray) (hf : vs.length < 1000000) (h : Q (.int (vs.length : Int) (s.toks + 1)) { s with toks := s.toks + 1 + 1 }) :
    wpAny (model prog w) A (call (.builtin "len") [.ref a]) Q E s := by
  have e : vs.toArray.size = vs.length := List.size_toArray ..
  exact call_len_list (base_list hl F) (by rw [e]; omega) (by rw [e]; exact h)
theorem item_base {value slice : PySem.Expr} {t : Tok} (F : Fr h₀ L s.heap m) (hl : h₀.IsList a vs.toArray) (hi : IntsAre vs ns) (h1 : (0 : Int) < vs.length) (h : ∀ i t', Q (.int i t') s)
    (hs : subscripted slice false (.ref a) (.int 0 t) = operate [.ref a, .int 0 t] (getItem (.ref a) (.int 0 t)) := by with_unfolding_all rfl) :
    wpAny (model prog w) A (subscriptTail value slice (.ref a) (.int 0 t)) Q E s := by
  have hd : 0 < vs.length := by omega
  have hx : vs[0]? = some vs[0] := List.getElem?_eq_getElem hd
  have hx2 : vs.toArray[(0 : Int).toNat]? = some vs[0] := by rw [List.getElem?_toArray]; exact hx
  obtain ⟨t', e⟩ := hi.int_at 0 _ hx
  have hl' := base_list hl F
  exact tail_any hl'.typeIs slot_list_getitem.lookup (wpAny_getItem_list hl' (by omega) (by omega) hx2 (by rw [e]; exact h _ _)) hs
theorem pool_x {i : Int} {b : Bool} : 0 ≤ (if -1 - i > i then -1 - i else i) * (if b = true then 1 else 0) := by
  cases b
  · simp
  · simp; split <;> omega
theorem mul_zero1 {x b : Int} {t u : Tok} (hb : b = 0 ∨ b = 1) (h : Q (.int (x * b) s.toks) { s with toks := s.toks + 1 }) : wpAny (model prog w) A (binaryOp .Mult (.int x t) (.int b u)) Q E s :=
  mul_int h (by rcases hb with rfl | rfl <;> mul_fits)
end
section
set_option maxRecDepth 100000 in
set_option maxHeartbeats 8000000 in
theorem pool_spec {w : World} {mean : ExcName → Option Value} {mg mb : Str → Option Value} {dp un : Nat} {gd : Option (List Code)} {cn : Str} {cs : Scope} {a : Addr} {ccd : Value} {cl : List (Str × Addr)} {outer : List Env} {A₀ : Around} {base h₀ : Heap} {L : Addr} {m : Str → Option Value} {s : Shared} {Q E : Value → Shared → Prop} {news : List (Addr × Obj)} {sa : Addr} {vs : List Value} {ns : List Int} {tk0 : Tok} (B : Below A₀ base outer h₀) (F : Fr h₀ L s.heap m) (X : Frag.In (KF w.params) h₀) (N : News h₀ L s.heap (news)) (T : Top VW (looseW VW LOOSE) mean mg mb h₀) (hk : cs.kind = .function)
    (hl : h₀.IsList sa vs.toArray) (hns : IntsAre vs ns) (hlen : vs.length < 1000) (hd : dp < 480) (hu : un < 1800)
    (ret : ∀ (src : Addr) (x y : Int) (tx ty : Tok) (n : Nat) (h' : Heap) (tk' : Nat), 0 ≤ x → 0 ≤ y → y < 2147483647 → AllLt src news → Fr h₀ L h' m → News h₀ L h' ((src, listOf #[.int x tx, .int y ty] n) :: news) → Q (.ref src) { s with heap := h', toks := tk' }) :
    wpAny (model PySem.Challenge.rw_nt0116_01.row.prog w) (ktrTop dp un gd cn cs L a ccd cl outer) (call (.ref 670) [.ref sa, .int 0 tk0]) Q E s := by
  k_with_none
  k_with "call builtin:len" => ((k_here; (with_reducible show wpAny _ _ (call (Value.builtin "len") [Value.ref _]) _ _ _); (rename Fr _ _ _ _ => lF'); k_dflt (refine' len_base lF' ?k2 ?k3 ?_; (case k2 => exact base_list (by assumption) (by assumption)); (case k3 => omega); k_whole)))
  k_with "subscriptTail" => ((k_here; (with_reducible show wpAny _ _ (subscriptTail _ _ (Value.ref _) (Value.int _ _)) _ _ _); (rename Fr _ _ _ _ => lF'); k_dflt (refine' item_base lF' ?k2 ?k3 ?k4 ?_; (case k2 => exact base_list (by assumption) (by assumption)); (case k3 => assumption); (case k4 => assumption); k_whole); intro i' t'))
  refine wpAny_call ?_
  k_dflt ktr_enter
  k_steps
  all_goals (refine' ret _ _ _ _ _ _ _ _ ?x0 ?y0 ?y1 ?al ?f9 ?g9; (case f9 => k_asm); (case g9 => k_asm); (case al => exact allLt_all (by assumption)); (case x0 => exact pool_x); (case y0 => exact (fm_pos (by decide)).1); (case y1 => exact (fm_pos (by decide)).2))
end
end
section
/-- the first numbers of the plans -/
noncomputable def cAt (rcs : List (Int × Int)) (i : Nat) : Int × Int := cSum (rcs.take i) (0, 1)
theorem cSum_snoc (p : Int × Int) : ∀ (l : List (Int × Int)) (a : Int × Int), cSum (l ++ [p]) a = ((cSum l a).1 + (cSum l a).2 * p.2, (cSum l a).2 * p.1)
  | [], a => rfl
  | q :: l, a => cSum_snoc p l _
theorem cAt_next {rcs : List (Int × Int)} {i : Nat} {r c : Int} (h : rcs[i]? = some (r, c)) : cAt rcs (i + 1) = ((cAt rcs i).1 + (cAt rcs i).2 * c, (cAt rcs i).2 * r) := by
  unfold cAt
  rw [List.take_add_one, h]
  exact cSum_snoc (r, c) _ _
theorem cAt_ok {rcs : List (Int × Int)} (hg : ∀ p ∈ rcs, gOk p.1 p.2) : ∀ i : Nat, i ≤ rcs.length → (0 ≤ (cAt rcs i).2 ∧ (cAt rcs i).2 ≤ powB i) ∧ (0 ≤ (cAt rcs i).1 ∧ (cAt rcs i).1 ≤ 5000 * (i * powB i))
  | 0, _ => by simp [cAt, cSum, powB]
  | i + 1, hi => by
    have h := cAt_ok hg i (by omega)
    have hlt : i < rcs.length := hi
    have hx : rcs[i]? = some rcs[i] := List.getElem?_eq_getElem hlt
    have hgi := hg _ (List.getElem_mem hlt)
    generalize hp : rcs[i] = p at hx hgi
    obtain ⟨r, c⟩ := p
    rw [cAt_next hx]
    obtain ⟨⟨r0, r1⟩, c0, c1⟩ := hgi
    dsimp only at r0 r1 c0 c1 ⊢
    obtain ⟨⟨a0, a1⟩, b0, b1⟩ := h
    generalize (cAt rcs i).2 = a at a0 a1 ⊢
    generalize (cAt rcs i).1 = b at b0 b1 ⊢
    have p0 : 0 ≤ powB i := Int.le_trans a0 a1
    have m1 := Int.mul_nonneg a0 r0
    have m2 := Int.mul_nonneg a0 c0
    have m3 := Int.mul_le_mul a1 r1 r0 p0
    have m4 := Int.mul_le_mul a1 c1 c0 p0
    have m5 : (0 : Int) ≤ (i : Int) * powB i := Int.mul_nonneg (Int.natCast_nonneg i) p0
    have e : powB (i + 1) = 1000 * powB i := rfl
    have e2 : ((i + 1 : Nat) : Int) * powB (i + 1) = 1000 * ((i : Int) * powB i) + 1000 * powB i := by
      rw [e]; push_cast; rw [Int.add_mul, Int.one_mul, Int.mul_left_comm]
    rw [e2, e]
    generalize (i : Int) * powB i = z at b1 m5 ⊢
    generalize powB i = q at *
    refine ⟨⟨m1, by omega⟩, by omega, by omega⟩
theorem powB_le {i : Nat} (h : i ≤ 3) : powB i ≤ 1000000000 := by
  rcases (show i = 0 ∨ i = 1 ∨ i = 2 ∨ i = 3 by omega) with rfl | rfl | rfl | rfl <;> decide
theorem cAt_small {rcs : List (Int × Int)} (hg : ∀ p ∈ rcs, gOk p.1 p.2) {i : Nat} (hi : i ≤ rcs.length) (h3 : i ≤ 3) : (0 ≤ (cAt rcs i).2 ∧ (cAt rcs i).2 ≤ 1000000000) ∧ (0 ≤ (cAt rcs i).1 ∧ (cAt rcs i).1 ≤ 15000000000000) := by
  have h := cAt_ok hg i hi
  have hp := powB_le h3
  have p0 : 0 ≤ powB i := Int.le_trans h.1.1 h.1.2
  have : (i : Int) * powB i ≤ 3 * 1000000000 := Int.mul_le_mul (by omega) hp p0 (by omega)
  omega
/-- the listed paths tell these rows and costs -/
def Tells (w : World) (R : List (Addr × Obj)) (vs : List Value) (rcs : List (Int × Int)) : Prop :=
  vs.length = rcs.length ∧ (∀ p ∈ rcs, gOk p.1 p.2) ∧ ∀ (i : Nat) (v : Value), vs[i]? = some v → ∃ r c, rcs[i]? = some (r, c) ∧ PathVal w R v r c
theorem tells_of {w : World} {R : List (Addr × Obj)} : ∀ {vs : List Value}, (∀ v ∈ vs, AnyPath w R v) → ∃ rcs, Tells w R vs rcs
  | [], _ => ⟨[], rfl, (fun _ h => nomatch h), fun i v h => by simp at h⟩
  | v :: vs, h => by
    obtain ⟨rcs, e, g, k⟩ := tells_of fun u hu => h u (List.mem_cons_of_mem _ hu)
    obtain ⟨r, c, h0, h1⟩ := h v List.mem_cons_self
    refine ⟨(r, c) :: rcs, by simp [e], fun p hp => ?_, fun i u hi => ?_⟩
    · rcases List.mem_cons.mp hp with rfl | hp
      · exact h0
      · exact g p hp
    · cases i with
      | zero => obtain rfl : v = u := by simpa using hi
                exact ⟨r, c, rfl, h1⟩
      | succ i => exact k i u (by simpa using hi)
theorem Tells.mono {w : World} {R R' : List (Addr × Obj)} {vs : List Value} {rcs : List (Int × Int)} (h : Tells w R vs rcs) (hs : ∀ p ∈ R, p ∈ R') : Tells w R' vs rcs :=
  ⟨h.1, h.2.1, fun i v hi => let ⟨r, c, e, k⟩ := h.2.2 i v hi; ⟨r, c, e, k.mono hs⟩⟩
theorem cend_t {sorted : Bool} {a b v A B : Int} (h : sorted = true) (ha : a = A) (hb : b = B) (hv : v = b * 4) : a + v = A + (if sorted then B * 4 else 0) := by rw [h, ha, hv, hb]; rfl
theorem cend_f {sorted : Bool} {a A B : Int} (h : sorted = false) (ha : a = A) : a + 0 = A + (if sorted then B * 4 else 0) := by rw [h, ha]; rfl
def CInv (rcs : List (Int × Int)) (news : List (Addr × Obj)) (i : Nat) (c1 c2 : Value) (nw : List (Addr × Obj)) : Prop :=
  nw = news ∧ ∃ a b t1 t2, c1 = .int a t1 ∧ c2 = .int b t2 ∧ a = (cAt rcs i).1 ∧ b = (cAt rcs i).2
section
variable {prog : Program} {w : World} {A : Around} {E : Value → Shared → Prop} {s : Shared} {Q : Value → Shared → Prop} {a b : Int} {t u : Tok} {h₀ : Heap} {L : Addr} {m : Str → Option Value} {news : List (Addr × Obj)}
theorem mul_b9 (ha : 0 ≤ a ∧ a ≤ 1000000000) (hb : 0 ≤ b ∧ b ≤ 5000) (h : ∀ v, v = a * b → (0 ≤ v ∧ v ≤ 5000000000000) → Q (.int v s.toks) { s with toks := s.toks + 1 }) : wpAny (model prog w) A (binaryOp .Mult (.int a t) (.int b u)) Q E s := by
  refine mul_int (h _ rfl ⟨Int.mul_nonneg ha.1 hb.1, ?_⟩) (IntMulOk.of_left (intBits_le_64 (by omega) (by omega)))
  have := Int.mul_le_mul ha.2 hb.2 hb.1 (by omega)
  omega
theorem min_b12 (ha : a ≤ 1000000000000) (hh : A.handled = none) (F : Fr h₀ L s.heap m) (N : News h₀ L s.heap news)
    (h : ∀ t' h' tk, Fr h₀ L h' m → News h₀ L h' news → Q (.int a t') { s with heap := h', toks := tk }) : wpAny (model prog w) A (call (.builtin "min") [.int a t, .int 1000000000000 u]) Q E s :=
  min_two_N hh F N fun h' tk F' N' => by
    rw [if_neg (show ¬ 1000000000000 < a by omega), if_neg (show ¬ 1000000000000 < a by omega)]
    exact h t h' tk F' N'
end
section
variable {prog : Program} {w : World} {A : Around} {E : Value → Shared → Prop} {s : Shared} {env : Env} {h₀ : Heap} {x : Str} {body : List Stmt} {Q : Flow → Shared → Prop}
theorem cost_loop {ax : Addr} {vs : List Value} {n : Nat} {m₀ : Str → Option Value} {news : List (Addr × Obj)} {rcs : List (Int × Int)} {q1 q2 : Tok} (y1 y2 : Str) (ne : (y2 == y1) = false)
    (hh : A.handled = none) (F : Fr h₀ env.locals s.heap m₀) (N : News h₀ env.locals s.heap news) (hm : (ax, listOf vs.toArray n) ∈ news) (hT : Tells w news vs rcs) (h3 : vs.length ≤ 3) (hm1 : m₀ y1 = some (.int 0 q1)) (hm2 : m₀ y2 = some (.int 1 q2))
    (turn : ∀ v a b r c t1 t2 (it : Obj) I h tk, PathVal w news v r c → (0 ≤ a ∧ a ≤ 15000000000000) → (0 ≤ b ∧ b ≤ 1000000000) → (0 ≤ r ∧ r ≤ 1000) → (0 ≤ c ∧ c ≤ 5000) → b * r ≤ 1000000000 → it.cls = .type "list_iterator" → (∀ p ∈ news, p.1 < I) →
      Fr h₀ env.locals h (fun z => if z = x then some v else if z = y1 then some (.int a t1) else if z = y2 then some (.int b t2) else m₀ z) → News h₀ env.locals h ((I, it) :: news) →
      wpAny (model prog w) A (execs body env) (UnrPost h₀ env.locals { s with heap := h, toks := tk } I it (fun m' n' => n' = news ∧ (∃ v1 v2 t1' t2', m' y1 = some (.int v1 t1') ∧ m' y2 = some (.int v2 t2') ∧ v1 = a + b * c ∧ v2 = b * r) ∧ ∀ z, z ≠ x → z ≠ y1 → z ≠ y2 → m' z = m₀ z) Q) E { s with heap := h, toks := tk })
    (done : ∀ a b t1 t2 (u : Str → Option Value) h tk, a = (cAt rcs rcs.length).1 → b = (cAt rcs rcs.length).2 → (0 ≤ a ∧ a ≤ 15000000000000) → (0 ≤ b ∧ b ≤ 1000000000) →
      Fr h₀ env.locals h (fun z => if z = x then u z else if z = y1 then some (.int a t1) else if z = y2 then some (.int b t2) else m₀ z) → News h₀ env.locals h news → Q .next { s with heap := h, toks := tk }) :
    wpAny (model prog w) A (pyIter (.ref ax)) (fun it s₂ => LoopAtV prog w A h₀ env x body Q E it s₂) E s := by
  have hacc : ∀ (c1 c2 : Value) (u : Str → Option Value), accF y1 y2 c1 c2 [] u m₀ = fun z => if z = y1 then some c1 else if z = y2 then some c2 else m₀ z := by
    intro c1 c2 u; funext z; unfold accF; simp
  have hlen := hT.1
  refine list_acc y1 y2 [] (CInv rcs news) hh F N hm1 hm2 ⟨rfl, 0, 1, _, _, rfl, rfl, rfl, rfl⟩ (fun i c1 c2 nw hi => by rw [hi.1]; exact hm) ?_ ?_
  · rintro i v c1 c2 u nw it I h tk hv ⟨rfl, a, b, t1, t2, rfl, rfl, ha, hb⟩ hit _ hI F' N'
    rw [hacc] at F'
    obtain ⟨r, c, hrc, hp⟩ := hT.2.2 i v hv
    have hg := hT.2.1 _ (List.mem_of_getElem? hrc)
    have hi : i < vs.length := (List.getElem?_eq_some_iff.mp hv).1
    have hs1 := cAt_small hT.2.1 (i := i) (by omega) (by omega)
    have hs2 := cAt_small hT.2.1 (i := i + 1) (by omega) (by omega)
    have hnx := cAt_next hrc
    rw [hnx] at hs2
    rw [← ha, ← hb] at hs1
    dsimp only at hs2
    rw [← ha, ← hb] at hs2
    refine wpAny_mono (turn v a b r c t1 t2 it I h tk hp hs1.2 hs1.1 hg.1 hg.2 hs2.1.2 hit hI F' N') (fun f s₂ p => ?_) fun _ _ e => e
    have fin : UnrEnd h₀ env.locals { s with heap := h, toks := tk } I it (fun m' n' => n' = nw ∧ (∃ v1 v2 t1' t2', m' y1 = some (.int v1 t1') ∧ m' y2 = some (.int v2 t2') ∧ v1 = a + b * c ∧ v2 = b * r) ∧ ∀ z, z ≠ x → z ≠ y1 → z ≠ y2 → m' z = m₀ z) s₂ → UnrEnd h₀ env.locals { s with heap := h, toks := tk } I it (fun m' n' => (∃ c1' c2', m' y1 = some c1' ∧ m' y2 = some c2' ∧ CInv rcs nw (i + 1) c1' c2' n') ∧ ∀ z, z ≠ x → z ≠ y1 → z ≠ y2 → ([] : List Str).contains z = false → m' z = m₀ z) s₂ := by
      rintro ⟨h2, tk2, m2, news2, e2, F2, N2, ho2, g1, ⟨v1, v2, t1', t2', g2, g3, g4, g5⟩, hmm⟩
      refine ⟨h2, tk2, m2, news2, e2, F2, N2, ho2, ⟨_, _, g2, g3, g1, _, _, _, _, rfl, rfl, ?_, ?_⟩, fun z z1 z2 z3 _ => hmm z z1 z2 z3⟩
      · rw [hnx, g4, ha, hb]
      · rw [hnx, g5, hb]
    cases f with
    | ret v => exact p
    | brk => exact p
    | next => exact fin p
    | cont => exact fin p
  · rintro c1 c2 u nw h tk ⟨rfl, a, b, t1, t2, rfl, rfl, ha, hb⟩ F' N'
    rw [hacc] at F'
    have hs1 := cAt_small hT.2.1 (i := vs.length) (by omega) (by omega)
    rw [← ha, ← hb] at hs1
    rw [hlen] at ha hb
    exact done a b t1 t2 u h tk ha hb hs1.2 hs1.1 F' N'
end
section
set_option maxRecDepth 100000 in
set_option maxHeartbeats 8000000 in
theorem cost_spec {w : World} {mean : ExcName → Option Value} {mg mb : Str → Option Value} {dp un : Nat} {gd : Option (List Code)} {cn : Str} {cs : Scope} {a : Addr} {ccd : Value} {cl : List (Str × Addr)} {outer : List Env} {A₀ : Around} {base h₀ : Heap} {L : Addr} {m : Str → Option Value} {s : Shared} {Q E : Value → Shared → Prop} {news : List (Addr × Obj)} {l : Addr} {vs : List Value} {n : Nat} {rcs : List (Int × Int)} {sorted : Bool} (B : Below A₀ base outer h₀) (F : Fr h₀ L s.heap m) (X : Frag.In (KF w.params) h₀) (N : News h₀ L s.heap (news)) (T : Top VW (looseW VW LOOSE) mean mg mb h₀) (hk : cs.kind = .function)
    (hl : (l, listOf vs.toArray n) ∈ news) (hv : Tells w news vs rcs) (h3 : vs.length ≤ 3) (hd : dp < 480) (hu : un < 1800)
    (ret : ∀ (v : Int) (t : Tok) (h' : Heap) (tk' : Nat), v = (cAt rcs rcs.length).1 + (if sorted then (cAt rcs rcs.length).2 * 4 else 0) → Fr h₀ L h' m → News h₀ L h' news → Q (.int v t) { s with heap := h', toks := tk' }) :
    wpAny (model PySem.Challenge.rw_nt0116_01.row.prog w) (ktrTop dp un gd cn cs L a ccd cl outer) (call (.ref 553) [.ref l, .bool sorted]) Q E s := by
  k_with_none
  k_with "binaryOp Mult int int" => ((k_here; (refine mul_b9 (by omega) (by omega) ?_); intro v' ev' hv'))
  k_with "exec For Name Name cons nil" => ((k_here; (rename Fr _ _ _ _ => lF'); (with_unfolding_all refine' For_invVF lF' ?k1 ?k2 ?_; (case k1 => exact rfl); (case k2 => exact rfl); k_whole)))
  k_with "call builtin:min" => ((k_here; (rename Fr _ _ _ _ => lF'); (rename News _ _ _ _ => lN'); (refine min_b12 (by omega) (by rfl) lF' lN' ?_); intro t' h' tk' F' N'; (try k_sweep); (try dsimp only); (try k_fold)))
  k_with "pyIter ref" => ((k_here; (with_reducible show wpAny _ _ (pyIter (Value.ref _)) (fun it s₂ => LoopAtV _ _ _ _ _ _ _ _ _ it s₂) _ _); (rename Fr _ _ _ _ => lF'); (rename News _ _ _ _ => lN'); (rename Tells _ _ _ _ => hT'); (with_unfolding_all refine' cost_loop (Str.ofString "cost") (Str.ofString "rows") (by decide) (by rfl) lF' lN' (by k_mem) (hT'.mono (fun p hp => by (repeat (first | exact hp | refine List.mem_cons_of_mem _ ?_)))) (by assumption) (by rfl) (by rfl) (fun v' a' b' r' c' t1' t2' it' I' h' tk' hp' ha' hb' hr' hc' hbr' hit' hI' F' N' => ?_) (fun a' b' t1' t2' u' h' tk' ha' hb' ha2' hb2' F' N' => ?_)); (try k_lt hI'); (first | ((obtain ⟨p', dq', e0', e1', kd', ix', lo', hi', la', ha3', il', ia', cv', ds', sg', tr', tc', q0', q1', q2', q3', q4', q5', q6', q7', q8', q9', q10', q11', q12', q13', q14', ev', hm1', hm2'⟩ := hp'.elim); subst ev') | skip); (all_goals (try k_fold))))
  k_with "UnrEnd" => ((refine UnrEnd.intro (by assumption) (by assumption) _ (fun p hp => hp) (by k_all) ⟨rfl, ⟨_, _, _, _, rfl, rfl, by omega, by omega⟩, ?_⟩; intro z h1 h2 h3; simp only [if_neg h1, if_neg h2, if_neg h3]))
  refine wpAny_call ?_
  k_dflt ktr_enter
  k_steps
  all_goals (rename News _ _ _ _ => kN; refine' ret _ _ _ _ ?e9 ?f9 (news_sub kN ?g9); (case f9 => k_asm); (case g9 => exact fun p hp => by (repeat (first | exact hp | refine List.mem_cons_of_mem _ ?_))); (case e9 => first | exact cend_t (by assumption) (by assumption) (by assumption) (by assumption) | exact cend_f (by assumption) (by assumption)))
end
end
section
noncomputable abbrev indexD (w : World) (v0 v1 v2 cols v4 v5 v6 : Value) (t0 t1 t2 t3 t4 t5 t6 : Tok) : Obj := dictOf [⟨PyData.keyHash w.params (Str.ofString "name"), .str (Str.ofString "name") t0, v0⟩, ⟨PyData.keyHash w.params (Str.ofString "table"), .str (Str.ofString "table") t1, v1⟩, ⟨PyData.keyHash w.params (Str.ofString "root"), .str (Str.ofString "root") t2, v2⟩, ⟨PyData.keyHash w.params (Str.ofString "columns"), .str (Str.ofString "columns") t3, cols⟩, ⟨PyData.keyHash w.params (Str.ofString "unique"), .str (Str.ofString "unique") t4, v4⟩, ⟨PyData.keyHash w.params (Str.ofString "origin"), .str (Str.ofString "origin") t5, v5⟩, ⟨PyData.keyHash w.params (Str.ofString "sql"), .str (Str.ofString "sql") t6, v6⟩] 7
def ColIn (R : List (Addr × Obj)) (v : Value) : Prop := ∃ (c : Addr) (place : Int) (tp tc : Tok) (nc : Nat), v = .ref c ∧ (c, ({ cls := .type "tuple", data := .seq #[.int place tp, .str (Str.ofString "binary") tc, .bool false] nc } : Obj)) ∈ R
theorem ColIn.elim {R : List (Addr × Obj)} {v : Value} (h : ColIn R v) : ∃ (c : Addr) (place : Int) (tp tc : Tok) (nc : Nat), v = .ref c ∧ (c, ({ cls := .type "tuple", data := .seq #[.int place tp, .str (Str.ofString "binary") tc, .bool false] nc } : Obj)) ∈ R := h
theorem ColIn.mono {R R' : List (Addr × Obj)} {v : Value} (h : ColIn R v) (hs : ∀ p ∈ R, p ∈ R') : ColIn R' v := by
  obtain ⟨c, place, tp, tc, nc, e, h1⟩ := h
  exact ⟨c, place, tp, tc, nc, e, hs _ h1⟩
/-- one walk of a statement that may store some names and may turn the ledger -/
def JoinS (h₀ : Heap) (L : Addr) (s : Shared) (xs : List Str) (m : Str → Option Value) (I : List (Addr × Obj) → Prop) (f : Flow) (s' : Shared) : Prop :=
  f = .next ∧ ∃ h tk m' nw, s' = { s with heap := h, toks := tk } ∧ Fr h₀ L h m' ∧ News h₀ L h nw ∧ I nw ∧ ∀ z, xs.contains z = false → m' z = m z
theorem join_s {M : Model} {A : Around} {E : Value → Shared → Prop} {s : Shared} {h₀ : Heap} {Q : Flow → Shared → Prop} {T : Sem Flow} {L : Addr} {m : Str → Option Value} (xs : List Str) (I : List (Addr × Obj) → Prop)
    (first : wpAny M A T (JoinS h₀ L s xs m I) E s)
    (next : ∀ (u : Str → Option Value) nw h tk, I nw → Fr h₀ L h (fun z => if xs.contains z then u z else m z) → News h₀ L h nw → Q .next { s with heap := h, toks := tk }) : wpAny M A T Q E s := by
  refine wpAny_mono first (fun f s' p => ?_) fun _ _ e => e
  obtain ⟨rfl, h, tk, m', nw, rfl, F, N, hI, hz⟩ := p
  have e : m' = fun z => if xs.contains z then m' z else m z := by
    funext z
    cases h1 : xs.contains z with
    | true => simp
    | false => simp only [Bool.false_eq_true, if_false]; exact hz z h1
  exact next m' nw h tk hI (e ▸ F) N
theorem JoinS.intro {h₀ : Heap} {s : Shared} {L : Addr} {xs : List Str} {m m' : Str → Option Value} {I : List (Addr × Obj) → Prop} {nw all : List (Addr × Obj)} {h : Heap} {tk : Nat} (F : Fr h₀ L h m') (N : News h₀ L h all) (hs : ∀ p ∈ nw, p ∈ all) (hI : I nw) (hz : ∀ z, xs.contains z = false → m' z = m z) :
    JoinS h₀ L s xs m I .next { s with heap := h, toks := tk } := ⟨rfl, h, tk, m', nw, rfl, F, fun p hp => N p (hs p hp), hI, hz⟩
/-- the head of an index path -/
def HeadK (w : World) (R news : List (Addr × Obj)) (hb : Addr) (k : Nat) (nw : List (Addr × Obj)) : Prop :=
  ∃ (hs : List Value) (n : Nat), nw = (hb, listOf hs.toArray n) :: news ∧ hs.length ≤ k ∧ ∀ v ∈ hs, BoundIn w R v
theorem HeadK.elim {w : World} {R news : List (Addr × Obj)} {hb : Addr} {k : Nat} {nw : List (Addr × Obj)} (h : HeadK w R news hb k nw) : ∃ (hs : List Value) (n : Nat), nw = (hb, listOf hs.toArray n) :: news ∧ hs.length ≤ k ∧ ∀ v ∈ hs, BoundIn w R v := h
theorem HeadK.le {w : World} {R news : List (Addr × Obj)} {hb : Addr} {k k' : Nat} {nw : List (Addr × Obj)} (h : HeadK w R news hb k nw) (hk : k ≤ k') : HeadK w R news hb k' nw := by
  obtain ⟨hs, n, e, h1, h2⟩ := h
  exact ⟨hs, n, e, Nat.le_trans h1 hk, h2⟩
theorem HeadK.mem {w : World} {R news : List (Addr × Obj)} {hb : Addr} {k : Nat} {nw : List (Addr × Obj)} {q : Addr × Obj} (h : HeadK w R news hb k nw) (hq : q ∈ news) : q ∈ nw := by
  obtain ⟨hs, n, rfl, _⟩ := h
  exact List.mem_cons_of_mem _ hq
/-- a path ahead of `guess`, its dict `d` apart -/
def PreP (w : World) (K : List (Addr × Obj)) (cov : Bool) (v : Value) (d : Addr × Obj) : Prop :=
  ∃ (p e0 e1 : Addr) (es : List Value) (n nl : Nat) (bl bh : Bool) (ix lo hi la ha il ia sg rw co : Value) (tk t0 t1 t2 t3 t4 t5 t6 t7 t8 t9 t10 t11 t12 t13 t14 : Tok),
    v = .ref p ∧ (p, instObj 474 d.1) ∈ K ∧ d.2 = pathD w (.str (Str.ofString "index") tk) ix e0 e1 lo hi la ha il ia (.bool cov) (.bool false) sg rw co t0 t1 t2 t3 t4 t5 t6 t7 t8 t9 t10 t11 t12 t13 t14 ∧ (e0, listOf es.toArray n) ∈ K ∧ es.length ≤ 3 ∧ FlagL lo bl ∧ FlagH hi bh ∧ ILen K il nl
theorem PreP.mono {w : World} {K K' : List (Addr × Obj)} {cov : Bool} {v : Value} {d : Addr × Obj} (h : PreP w K cov v d) (hs : ∀ p ∈ K, p ∈ K') : PreP w K' cov v d := by
  obtain ⟨p, e0, e1, es, n, nl, bl, bh, ix, lo, hi, la, ha, il, ia, sg, rw, co, tk, t0, t1, t2, t3, t4, t5, t6, t7, t8, t9, t10, t11, t12, t13, t14, a, b, c, d, e, f, g, i⟩ := h
  exact ⟨p, e0, e1, es, n, nl, bl, bh, ix, lo, hi, la, ha, il, ia, sg, rw, co, tk, t0, t1, t2, t3, t4, t5, t6, t7, t8, t9, t10, t11, t12, t13, t14, a, hs _ b, c, hs _ d, e, f, g, i.mono hs⟩
inductive PreL (w : World) (K : List (Addr × Obj)) (cov : Bool) : List Value → List (Addr × Obj) → Prop
  | nil : PreL w K cov [] []
  | cons {v vs d D} : PreP w K cov v d → PreL w K cov vs D → PreL w K cov (v :: vs) (d :: D)
theorem PreL.mono {w : World} {K K' : List (Addr × Obj)} {cov : Bool} {vs : List Value} {D : List (Addr × Obj)} (h : PreL w K cov vs D) (hs : ∀ p ∈ K, p ∈ K') : PreL w K' cov vs D := by
  induction h with
  | nil => exact .nil
  | cons a _ ih => exact .cons (a.mono hs) ih
theorem PreL.snoc {w : World} {K : List (Addr × Obj)} {cov : Bool} {vs : List Value} {D : List (Addr × Obj)} {v : Value} {d : Addr × Obj} (h : PreL w K cov vs D) (hv : PreP w K cov v d) : PreL w K cov (vs ++ [v]) (D ++ [d]) := by
  induction h with
  | nil => exact .cons hv .nil
  | cons a _ ih => exact .cons a ih
theorem PreL.len {w : World} {K : List (Addr × Obj)} {cov : Bool} {vs : List Value} {D : List (Addr × Obj)} (h : PreL w K cov vs D) : vs.length = D.length := by
  induction h with
  | nil => rfl
  | cons _ _ ih => simp [ih]
theorem PreL.at {w : World} {K : List (Addr × Obj)} {cov : Bool} {vs : List Value} {D : List (Addr × Obj)} (h : PreL w K cov vs D) : ∀ (i : Nat) (v : Value), vs[i]? = some v → ∃ d, D[i]? = some d ∧ PreP w K cov v d := by
  induction h with
  | nil => intro i v hv; simp at hv
  | cons a _ ih =>
    intro i v hv
    cases i with
    | zero => exact ⟨_, rfl, by have e := Option.some.inj hv; exact e ▸ a⟩
    | succ i => exact ih i v hv
structure IState (w : World) (cov : Bool) (R news : List (Addr × Obj)) (fl : Addr) (vs : List Value) (T D R' K : List (Addr × Obj)) : Prop where
  t : T = D ++ R'
  n : Sub news R'
  r : Sub R K
  k : Sub K R'
  f : Fresh R news K
  fd : ∀ d ∈ D, ∀ x ∈ news, x.1 < d.1
  ne : ∀ p ∈ R', p.1 ≠ fl
  dfl : ∀ d ∈ D, d.1 ≠ fl
  dr : ∀ d ∈ D, ∀ q ∈ R', q.1 ≠ d.1
  nd : (D.map Prod.fst).Nodup
  g : PreL w K cov vs D
theorem IState.tsub {w : World} {cov : Bool} {R news : List (Addr × Obj)} {fl : Addr} {vs : List Value} {T D R' K : List (Addr × Obj)} (st : IState w cov R news fl vs T D R' K) : Sub R' T := by
  rw [st.t]; exact fun p hp => List.mem_append_right _ hp
theorem IState.tne {w : World} {cov : Bool} {R news : List (Addr × Obj)} {fl : Addr} {vs : List Value} {T D R' K : List (Addr × Obj)} (st : IState w cov R news fl vs T D R' K) : ∀ p ∈ T, p.1 ≠ fl := by
  rw [st.t]
  intro p hp
  rcases List.mem_append.mp hp with hp | hp
  · exact st.dfl p hp
  · exact st.ne p hp
/-- a new path behind the found ones -/
theorem IState.path {w : World} {cov : Bool} {R news : List (Addr × Obj)} {fl dq e1 e0 p : Addr} {d o1 o0 oi : Obj} {vs : List Value} {T D R' K : List (Addr × Obj)} {v : Value} {n : Nat} {l : List Value} (st : IState w cov R news fl vs T D R' K)
    (l1 : AllLt dq ((fl, listOf l.toArray n) :: T)) (l2 : dq < p) (l3 : p < e0) (l4 : e0 < e1) (hv : PreP w ((e1, o1) :: (e0, o0) :: (p, oi) :: K) cov v (dq, d)) :
    IState w cov R news fl (vs ++ [v]) ((D ++ [(dq, d)]) ++ ((e1, o1) :: (e0, o0) :: (p, oi) :: R')) (D ++ [(dq, d)]) ((e1, o1) :: (e0, o0) :: (p, oi) :: R') ((e1, o1) :: (e0, o0) :: (p, oi) :: K) := by
  have nT : Sub news T := st.n.trans st.tsub
  have a1 : ∀ x ∈ news, x.1 < dq := lt_of_all l1 nT.skip
  have a2 : ∀ x ∈ news, x.1 < p := fun x hx => Nat.lt_trans (a1 x hx) l2
  have a3 : ∀ x ∈ news, x.1 < e0 := fun x hx => Nat.lt_trans (a2 x hx) l3
  have a4 : ∀ x ∈ news, x.1 < e1 := fun x hx => Nat.lt_trans (a3 x hx) l4
  have f1 : fl < dq := l1.1
  have f2 := Nat.lt_trans f1 l2
  have f3 := Nat.lt_trans f2 l3
  have f4 := Nat.lt_trans f3 l4
  have b3 := Nat.lt_trans l2 l3
  have b4 := Nat.lt_trans b3 l4
  have tl : ∀ x ∈ T, x.1 < dq := lt_of_all l1 (Sub.skip Sub.refl)
  have dl : ∀ x ∈ D, x.1 < dq := fun x hx => tl x (st.t ▸ List.mem_append_left _ hx)
  have rl : ∀ x ∈ R', x.1 < dq := fun x hx => tl x (st.tsub x hx)
  refine ⟨rfl, (st.n.skip).skip.skip, (st.r.skip).skip.skip, ?_, Fresh.cons (Fresh.cons (Fresh.cons st.f a2) a3) a4, ?_, ?_, ?_, ?_, ?_, (st.g.mono (fun q hq => List.mem_cons_of_mem _ (List.mem_cons_of_mem _ (List.mem_cons_of_mem _ hq)))).snoc hv⟩
  · exact Sub.consL (List.mem_cons_self) (Sub.consL (List.mem_cons_of_mem _ List.mem_cons_self) (Sub.consL (List.mem_cons_of_mem _ (List.mem_cons_of_mem _ List.mem_cons_self)) (st.k.skip).skip.skip))
  · intro x hx
    rcases List.mem_append.mp hx with hx | hx
    · exact st.fd x hx
    · rw [List.mem_singleton.mp hx]; exact a1
  · intro y hy
    simp only [List.mem_cons] at hy
    rcases hy with rfl | rfl | rfl | hy
    · exact Nat.ne_of_gt f4
    · exact Nat.ne_of_gt f3
    · exact Nat.ne_of_gt f2
    · exact st.ne y hy
  · intro x hx
    rcases List.mem_append.mp hx with hx | hx
    · exact st.dfl x hx
    · rw [List.mem_singleton.mp hx]; exact Nat.ne_of_gt f1
  · intro x hx y hy
    rcases List.mem_append.mp hx with hx | hx
    · have hxl := dl x hx
      simp only [List.mem_cons] at hy
      rcases hy with rfl | rfl | rfl | hy
      · exact Nat.ne_of_gt (Nat.lt_trans hxl b4)
      · exact Nat.ne_of_gt (Nat.lt_trans hxl b3)
      · exact Nat.ne_of_gt (Nat.lt_trans hxl l2)
      · exact st.dr x hx y hy
    · rw [List.mem_singleton.mp hx]
      simp only [List.mem_cons] at hy
      rcases hy with rfl | rfl | rfl | hy
      · exact Nat.ne_of_gt b4
      · exact Nat.ne_of_gt b3
      · exact Nat.ne_of_gt l2
      · exact Nat.ne_of_lt (rl y hy)
  · rw [List.map_append, List.nodup_append]
    refine ⟨st.nd, by simp, ?_⟩
    intro a ha b hb
    obtain ⟨x, hx, rfl⟩ := List.mem_map.mp ha
    simp at hb
    rw [hb]
    exact Nat.ne_of_lt (dl x hx)
end
section
noncomputable def perI (cov : Bool) : Int := if cov then 2 else 3
theorem nodup_at {D : List (Addr × Obj)} (nd : (D.map Prod.fst).Nodup) {i : Nat} {d : Addr × Obj} (hd : D[i]? = some d) : (∀ a ∈ (D.take i).map Prod.fst, a ≠ d.1) ∧ ∀ q ∈ D.drop (i + 1), q.1 ≠ d.1 := by
  have hlt : i < D.length := (List.getElem?_eq_some_iff.mp hd).1
  have he : D[i] = d := (List.getElem?_eq_some_iff.mp hd).2
  have hsplit : D = D.take i ++ d :: D.drop (i + 1) := by
    rw [← he, ← List.drop_eq_getElem_cons hlt, List.take_append_drop]
  rw [hsplit, List.map_append, List.nodup_append, List.map_cons, List.nodup_cons] at nd
  refine ⟨fun a ha => nd.2.2 a ha d.1 List.mem_cons_self, fun q hq e => nd.2.1.1 (e ▸ List.mem_map_of_mem hq)⟩
section
variable {prog : Program} {w : World} {A : Around} {E : Value → Shared → Prop} {s : Shared} {env : Env} {h₀ : Heap} {x : Str} {body : List Stmt} {Q : Flow → Shared → Prop}
def GInv (w : World) (uq : Bool) (nc : Nat) (cov : Bool) (vs : List Value) (D R' K : List (Addr × Obj)) (ol : Addr × Obj) (i : Nat) (nw : List (Addr × Obj)) : Prop :=
  ∃ done : List (Addr × Obj), done.map Prod.fst = (D.take i).map Prod.fst ∧ nw = ol :: (done ++ (D.drop i ++ R')) ∧ ∀ v ∈ vs.take i, IdxPath w uq nc cov (done ++ K) v
theorem guess_loop {fl : Addr} {vs : List Value} {n : Nat} {cov : Bool} {R news T D R' K : List (Addr × Obj)} {m₀ : Str → Option Value} (stored : List Str) (uq : Bool) (nc : Nat)
    (st : IState w cov R news fl vs T D R' K) (hh : A.handled = none) (F : Fr h₀ env.locals s.heap m₀) (N : News h₀ env.locals s.heap ((fl, listOf vs.toArray n) :: T))
    (turn : ∀ (u : Str → Option Value) (it : Obj) I h tk (RR : List (Addr × Obj)) (p dq e0 e1 : Addr) (es : List Value) (n nl : Nat) (bl bh : Bool) (ix lo hi la ha il ia sg rw co : Value) (tk' t0 t1 t2 t3 t4 t5 t6 t7 t8 t9 t10 t11 t12 t13 t14 : Tok),
      (p, instObj 474 dq) ∈ RR → (e0, listOf es.toArray n) ∈ RR → es.length ≤ 3 → FlagL lo bl → FlagH hi bh → ILen RR il nl → Sub R' RR → Sub news RR → (∀ q ∈ RR, q.1 ≠ dq) → it.cls = .type "list_iterator" → (∀ q ∈ RR, q.1 ≠ I) → (@Ne Nat dq I) →
      Fr h₀ env.locals h (fun z => if z = x then some (.ref p) else if stored.contains z then u z else m₀ z) →
      News h₀ env.locals h ((I, it) :: (dq, pathD w (.str (Str.ofString "index") tk') ix e0 e1 lo hi la ha il ia (.bool cov) (.bool false) sg rw co t0 t1 t2 t3 t4 t5 t6 t7 t8 t9 t10 t11 t12 t13 t14) :: RR) →
      wpAny (model prog w) A (execs body env) (UnrPost h₀ env.locals { s with heap := h, toks := tk } I it (fun m' n' => (∃ tr tc, n' = (dq, pathD w (.str (Str.ofString "index") tk') ix e0 e1 lo hi la ha il ia (.bool cov) (.bool false) (.bool ((uq && decide (ledN es.length nl = nc)) && decide (nl = 0))) (.int (gRows es.length bl bh nl (uq && decide (ledN es.length nl = nc))) tr) (.int (gCost es.length bl bh nl (uq && decide (ledN es.length nl = nc)) (perI cov)) tc) t0 t1 t2 t3 t4 t5 t6 t7 t8 t9 t10 t11 t12 t13 t14) :: RR) ∧ ∀ z, z ≠ x → stored.contains z = false → m' z = m₀ z) Q) E { s with heap := h, toks := tk })
    (done : ∀ (u : Str → Option Value) (D' : List (Addr × Obj)) h tk, D'.map Prod.fst = D.map Prod.fst → (∀ v ∈ vs, IdxPath w uq nc cov (D' ++ K) v) → Fr h₀ env.locals h (fun z => if z = x then u z else if stored.contains z then u z else m₀ z) → News h₀ env.locals h ((fl, listOf vs.toArray n) :: (D' ++ R')) → Q .next { s with heap := h, toks := tk }) :
    wpAny (model prog w) A (pyIter (.ref fl)) (fun it s₂ => LoopAtV prog w A h₀ env x body Q E it s₂) E s := by
  rw [st.t] at N
  have hlen := st.g.len
  refine list_state stored (GInv w uq nc cov vs D R' K (fl, listOf vs.toArray n)) hh F N ⟨[], by simp, by simp, fun v hv => by simp at hv⟩ (fun i nw hi => by obtain ⟨_, _, rfl, _⟩ := hi; exact List.mem_cons_self) ?_ ?_
  · rintro i v u nw it I h tk hv ⟨dn, hm, rfl, hg⟩ hit hoff hI F' N'
    obtain ⟨d, hd, p, e0, e1, es, nn, nl, bl, bh, ix, lo, hi, la, ha, il, ia, sg, rw, co, tk', t0, t1, t2, t3, t4, t5, t6, t7, t8, t9, t10, t11, t12, t13, t14, rfl, hp, hdd, he, h3, fL, fH, iL⟩ := st.g.at i v hv
    have hlt : i < D.length := (List.getElem?_eq_some_iff.mp hd).1
    have hee : D[i] = d := (List.getElem?_eq_some_iff.mp hd).2
    have hdrop : D.drop i = d :: D.drop (i + 1) := by rw [← hee, ← List.drop_eq_getElem_cons hlt]
    obtain ⟨dq, d2⟩ := d
    dsimp only at hp hdd
    subst hdd
    have hna := nodup_at st.nd hd
    have hdD := List.mem_of_getElem? hd
    rw [hdrop] at N' hoff
    generalize hRR : (fl, listOf vs.toArray n) :: (dn ++ (D.drop (i + 1) ++ R')) = RR
    have sR : Sub R' RR := by rw [← hRR]; intro q hq; simp [hq]
    have sK : Sub K RR := st.k.trans sR
    have hne : ∀ q ∈ RR, q.1 ≠ dq := by
      intro q hq
      rw [← hRR] at hq
      simp only [List.mem_cons, List.mem_append] at hq
      rcases hq with rfl | hq | hq | hq
      · exact Ne.symm (st.dfl _ hdD)
      · exact hna.1 q.1 (hm ▸ List.mem_map_of_mem hq)
      · exact hna.2 q hq
      · exact st.dr _ hdD q hq
    have hoffR : ∀ q ∈ RR, q.1 ≠ I := by
      intro q hq
      refine hoff q ?_
      rw [← hRR] at hq
      simp only [List.mem_cons, List.mem_append] at hq ⊢
      rcases hq with hq | hq | hq | hq <;> simp [hq]
    have hdI : dq ≠ I := hoff (dq, _) (List.mem_cons_of_mem _ (List.mem_append_right _ (List.mem_append_left _ List.mem_cons_self)))
    have N2 := news_sub (l' := (I, it) :: (dq, pathD w (.str (Str.ofString "index") tk') ix e0 e1 lo hi la ha il ia (.bool cov) (.bool false) sg rw co t0 t1 t2 t3 t4 t5 t6 t7 t8 t9 t10 t11 t12 t13 t14) :: RR) N' (by
      intro q hq
      rw [← hRR] at hq
      simp only [List.mem_cons, List.mem_append] at hq ⊢
      rcases hq with hq | hq | hq | hq | hq | hq <;> simp [hq])
    refine wpAny_mono (turn u it I h tk RR p dq e0 e1 es nn nl bl bh ix lo hi la ha il ia sg rw co tk' t0 t1 t2 t3 t4 t5 t6 t7 t8 t9 t10 t11 t12 t13 t14 (sK _ hp) (sK _ he) h3 fL fH (iL.mono sK) sR (st.n.trans sR) hne hit hoffR hdI F' N2) (fun f s₂ q => ?_) fun _ _ e => e
    have fin : UnrEnd h₀ env.locals { s with heap := h, toks := tk } I it (fun m' n' => (∃ tr tc, n' = (dq, pathD w (.str (Str.ofString "index") tk') ix e0 e1 lo hi la ha il ia (.bool cov) (.bool false) (.bool ((uq && decide (ledN es.length nl = nc)) && decide (nl = 0))) (.int (gRows es.length bl bh nl (uq && decide (ledN es.length nl = nc))) tr) (.int (gCost es.length bl bh nl (uq && decide (ledN es.length nl = nc)) (perI cov)) tc) t0 t1 t2 t3 t4 t5 t6 t7 t8 t9 t10 t11 t12 t13 t14) :: RR) ∧ ∀ z, z ≠ x → stored.contains z = false → m' z = m₀ z) s₂ →
        UnrEnd h₀ env.locals { s with heap := h, toks := tk } I it (fun m' n' => GInv w uq nc cov vs D R' K (fl, listOf vs.toArray n) (i + 1) n' ∧ ∀ z, z ≠ x → stored.contains z = false → m' z = m₀ z) s₂ := by
      rintro ⟨h2, tk2, m2, news2, e2, F2, N2, ho2, ⟨tr, tc, rfl⟩, hmm⟩
      generalize hDD : ((dq, pathD w (.str (Str.ofString "index") tk') ix e0 e1 lo hi la ha il ia (.bool cov) (.bool false) (.bool ((uq && decide (ledN es.length nl = nc)) && decide (nl = 0))) (.int (gRows es.length bl bh nl (uq && decide (ledN es.length nl = nc))) tr) (.int (gCost es.length bl bh nl (uq && decide (ledN es.length nl = nc)) (perI cov)) tc) t0 t1 t2 t3 t4 t5 t6 t7 t8 t9 t10 t11 t12 t13 t14) : Addr × Obj) = dd at N2 ho2
      have hd1 : dd.1 = dq := by rw [← hDD]
      have perm : ∀ q ∈ (fl, listOf vs.toArray n) :: ((dn ++ [dd]) ++ (D.drop (i + 1) ++ R')), q ∈ dd :: RR := by
        intro q hq
        rw [← hRR]
        simp only [List.mem_cons, List.mem_append, List.not_mem_nil, or_false] at hq ⊢
        rcases hq with hq | (hq | hq) | hq | hq <;> simp [hq]
      refine ⟨h2, tk2, m2, (fl, listOf vs.toArray n) :: ((dn ++ [dd]) ++ (D.drop (i + 1) ++ R')), e2, F2, fun q hq => ?_, fun q hq => ho2 q (perm q hq), ⟨dn ++ [dd], ?_, rfl, ?_⟩, hmm⟩
      · rcases List.mem_cons.mp hq with hq | hq
        · exact N2 q (hq ▸ List.mem_cons_self)
        · exact N2 q (List.mem_cons_of_mem _ (perm q hq))
      · rw [List.take_add_one, hd, List.map_append, List.map_append, hm]
        simp [hd1]
      · intro y hy
        rw [List.take_add_one, hv] at hy
        rcases List.mem_append.mp hy with hy | hy
        · exact (hg y hy).mono (fun q hq => by
            simp only [List.mem_append, List.mem_cons, List.not_mem_nil, or_false] at hq ⊢
            rcases hq with hq | hq <;> simp [hq])
        · have hy2 : y = .ref p := by simpa using hy
          subst hy2
          have hsK : ∀ q ∈ K, q ∈ dn ++ [dd] ++ K := fun q hq => List.mem_append_right _ hq
          refine ⟨es.length, bl, bh, nl, iL.le, p, dq, e0, e1, es, nn, ix, lo, hi, la, ha, il, ia, .bool false, tk', tr, tc, t0, t1, t2, t3, t4, t5, t6, t7, t8, t9, t10, t11, t12, t13, t14, rfl, hsK _ hp, ?_, hsK _ he, rfl, h3, fL, fH, iL.mono hsK⟩
          show _ ∈ dn ++ [dd] ++ K
          rw [← hDD]
          exact List.mem_append_left _ (List.mem_append_right _ List.mem_cons_self)
    cases f with
    | ret v => exact q
    | brk => exact q
    | next => exact fin q
    | cont => exact fin q
  · rintro u nw h tk ⟨dn, hm, rfl, hg⟩ F' N'
    rw [hlen, List.take_length] at hm
    rw [hlen, List.drop_length, List.nil_append] at N'
    rw [List.take_length] at hg
    exact done u dn h tk hm hg F' N'
end
end
section
theorem cont2 {a b z : Str} (h : [a, b].contains z = false) : z ≠ a ∧ z ≠ b := by
  simpa using h
theorem cont1 {a z : Str} (h : z ≠ a) : [a].contains z = false := by
  simpa using h
section
variable {M : Model} {A : Around} {E : Value → Shared → Prop} {h₀ : Heap} {Q : Flow → Shared → Prop} {T' : Sem Flow} {s : Shared} {L : Addr} {m : Str → Option Value} {w : World} {R news : List (Addr × Obj)}
theorem join_head {tb hb : Addr} {n₀ : Nat} (_ : TableIn w R tb) (_ : Base R news) (_ : m (Str.ofString "head") = some (.ref hb)) (_ : Fr h₀ L s.heap m) (_ : News h₀ L s.heap ((hb, listOf #[] n₀) :: news))
    (first : wpAny M A T' (JoinS h₀ L s [Str.ofString "column", Str.ofString "equal"] m (HeadK w R news hb 3)) E s)
    (next : ∀ (u : Str → Option Value) (hs : List Value) n h tk, hs.length ≤ 3 → (∀ v, v ∈ hs → BoundIn w R v) → Fr h₀ L h (fun z => if [Str.ofString "column", Str.ofString "equal"].contains z then u z else m z) → News h₀ L h ((hb, listOf hs.toArray n) :: news) → Q .next { s with heap := h, toks := tk }) : wpAny M A T' Q E s :=
  join_s _ _ first fun u nw h tk ⟨hs, n, e, h1, h2⟩ F N => next u hs n h tk h1 h2 F (e ▸ N)
theorem JoinS.head {hb : Addr} {h : Heap} {tk : Nat} {m' : Str → Option Value} {all : List (Addr × Obj)} {hs : List Value} {n : Nat} (F : Fr h₀ L h m') (N : News h₀ L h all) (hsub : ∀ p ∈ (hb, listOf hs.toArray n) :: news, p ∈ all) (h1 : hs.length ≤ 3) (h2 : ∀ v ∈ hs, BoundIn w R v) (hz : ∀ z, z ≠ Str.ofString "column" → z ≠ Str.ofString "equal" → m' z = m z) :
    JoinS h₀ L s [Str.ofString "column", Str.ofString "equal"] m (HeadK w R news hb 3) .next { s with heap := h, toks := tk } :=
  JoinS.intro F N hsub ⟨hs, n, rfl, h1, h2⟩ fun z hz' => hz z (cont2 hz').1 (cont2 hz').2
def IdxK (w : World) (cov : Bool) (R news : List (Addr × Obj)) (q : Addr × Obj) (fl : Addr) (k : Nat) (nw : List (Addr × Obj)) : Prop :=
  ∃ (vs : List Value) (n : Nat) (T D R' K : List (Addr × Obj)), nw = (fl, listOf vs.toArray n) :: T ∧ IState w cov R news fl vs T D R' K ∧ q ∈ R' ∧ vs.length ≤ k
structure IdxR (R : List (Addr × Obj)) (ix dix lc : Addr) (oi od ol : Obj) : Prop where
  a : (ix, oi) ∈ R
  b : (dix, od) ∈ R
  c : (lc, ol) ∈ R
theorem IState.rsub {cov : Bool} {fl : Addr} {vs : List Value} {T D R' K : List (Addr × Obj)} (st : IState w cov R news fl vs T D R' K) : Sub R T := (st.r.trans st.k).trans st.tsub
theorem join_idx {xs : List Str} {cov : Bool} {fl ix dix lc hb : Addr} {oi od ol oh : Obj} {vs₀ : List Value} {n₀ : Nat} {l T₀ D₀ R₀ K₀ : List (Addr × Obj)} (k k' : Nat)
    (hx : IdxR R ix dix lc oi od ol) (st : IState w cov R news fl vs₀ T₀ D₀ R₀ K₀) (_ : m (Str.ofString "head") = some (.ref hb)) (hq : (hb, oh) ∈ R₀) (hk : vs₀.length ≤ k) (_ : Fr h₀ L s.heap m) (N : News h₀ L s.heap l) (hsub : ∀ p ∈ (fl, listOf vs₀.toArray n₀) :: T₀, p ∈ l)
    (first : ∀ (vs : List Value) n T D R' K, IState w cov R news fl vs T D R' K → (hb, oh) ∈ R' → vs.length ≤ k → Sub R T → (ix, oi) ∈ T → (dix, od) ∈ T → (lc, ol) ∈ T → (hb, oh) ∈ T → (∀ p ∈ T, p.1 ≠ fl) → News h₀ L s.heap ((fl, listOf vs.toArray n) :: T) → wpAny M A T' (JoinS h₀ L s xs m (IdxK w cov R news (hb, oh) fl k')) E s)
    (next : ∀ (u : Str → Option Value) (vs : List Value) n T D R' K h tk, IState w cov R news fl vs T D R' K → (hb, oh) ∈ R' → vs.length ≤ k' → Sub R T → (ix, oi) ∈ T → (dix, od) ∈ T → (lc, ol) ∈ T → (hb, oh) ∈ T → (∀ p ∈ T, p.1 ≠ fl) → Fr h₀ L h (fun z => if xs.contains z then u z else m z) → News h₀ L h ((fl, listOf vs.toArray n) :: T) → Q .next { s with heap := h, toks := tk }) : wpAny M A T' Q E s :=
  join_s _ _ (first vs₀ n₀ T₀ D₀ R₀ K₀ st hq hk st.rsub (st.rsub _ hx.a) (st.rsub _ hx.b) (st.rsub _ hx.c) (st.tsub _ hq) st.tne (news_sub N hsub)) fun u nw h tk ⟨vs, n, T, D, R', K, e, st, hq, hk⟩ F N => next u vs n T D R' K h tk st hq hk st.rsub (st.rsub _ hx.a) (st.rsub _ hx.b) (st.rsub _ hx.c) (st.tsub _ hq) st.tne F (e ▸ N)
theorem JoinS.same {xs : List Str} {cov : Bool} {fl : Addr} {q : Addr × Obj} {vs : List Value} {n k k' : Nat} {all T D R' K : List (Addr × Obj)} {h : Heap} {tk : Nat} {m' : Str → Option Value}
    (st : IState w cov R news fl vs T D R' K) (hq : q ∈ R') (hk : vs.length ≤ k) (hkk : k ≤ k') (F : Fr h₀ L h m') (N : News h₀ L h all) (hsub : ∀ p ∈ (fl, listOf vs.toArray n) :: T, p ∈ all) (hz : ∀ z, xs.contains z = false → m' z = m z) :
    JoinS h₀ L s xs m (IdxK w cov R news q fl k') .next { s with heap := h, toks := tk } :=
  JoinS.intro F N hsub ⟨vs, n, T, D, R', K, rfl, st, hq, Nat.le_trans hk hkk⟩ hz
theorem JoinS.path {xs : List Str} {cov : Bool} {fl dq e1 e0 p : Addr} {d o1 o0 oi : Obj} {q : Addr × Obj} {vs : List Value} {n k : Nat} {T D R' K : List (Addr × Obj)} {h : Heap} {tk : Nat} {v : Value} {m' : Str → Option Value}
    (st : IState w cov R news fl vs T D R' K) (hq : q ∈ R') (hk : vs.length ≤ k) (F : Fr h₀ L h m') (N : News h₀ L h ((dq, d) :: (e1, o1) :: (e0, o0) :: (p, oi) :: (fl, listOf (vs ++ [v]).toArray n) :: T))
    (l1 : @LT.lt Nat _ fl dq ∧ AllLt dq T) (l2 : dq < p) (l3 : p < e0) (l4 : e0 < e1) (hv : PreP w ((e1, o1) :: (e0, o0) :: (p, oi) :: K) cov v (dq, d)) (hz : ∀ z, xs.contains z = false → m' z = m z) :
    JoinS h₀ L s xs m (IdxK w cov R news q fl (k + 1)) .next { s with heap := h, toks := tk } := by
  refine JoinS.intro F N (nw := (fl, listOf (vs ++ [v]).toArray n) :: ((D ++ [(dq, d)]) ++ ((e1, o1) :: (e0, o0) :: (p, oi) :: R'))) (fun y hy => ?_) ⟨vs ++ [v], n, _, _, _, _, rfl, st.path (l := vs) (n := n) l1 l2 l3 l4 hv, by simp [hq], by rw [List.length_append, List.length_singleton]; omega⟩ hz
  rw [st.t]
  simp only [List.mem_cons, List.mem_append, List.not_mem_nil, or_false] at hy ⊢
  rcases hy with hy | (hy | hy) | hy | hy | hy | hy <;> simp [hy]
/-- the first path -/
theorem IState.init {cov : Bool} {fl dq e1 e0 p hb : Addr} {d o1 o0 oi oh : Obj} {v : Value} (hB : Base R news)
    (l1 : AllLt dq ((hb, oh) :: news)) (l2 : dq < p) (l3 : p < e0) (l4 : e0 < e1) (l5 : e1 < fl) (hv : PreP w ((e1, o1) :: (e0, o0) :: (p, oi) :: R) cov v (dq, d)) :
    IState w cov R news fl [v] ([(dq, d)] ++ ((e1, o1) :: (e0, o0) :: (p, oi) :: (hb, oh) :: news)) [(dq, d)] ((e1, o1) :: (e0, o0) :: (p, oi) :: (hb, oh) :: news) ((e1, o1) :: (e0, o0) :: (p, oi) :: R) := by
  have a1 : ∀ x ∈ news, x.1 < dq := lt_of_all l1 (Sub.skip Sub.refl)
  have a2 : ∀ x ∈ news, x.1 < p := fun x hx => Nat.lt_trans (a1 x hx) l2
  have a3 : ∀ x ∈ news, x.1 < e0 := fun x hx => Nat.lt_trans (a2 x hx) l3
  have a4 : ∀ x ∈ news, x.1 < e1 := fun x hx => Nat.lt_trans (a3 x hx) l4
  have a5 : ∀ x ∈ news, x.1 < fl := fun x hx => Nat.lt_trans (a4 x hx) l5
  have h1 : hb < dq := l1.1
  have b3 := Nat.lt_trans l2 l3
  have b4 := Nat.lt_trans b3 l4
  have b5 := Nat.lt_trans b4 l5
  refine ⟨rfl, (Sub.refl.skip).skip.skip.skip, (Sub.refl.skip).skip.skip, ?_, Fresh.cons (Fresh.cons (Fresh.cons Fresh.self a2) a3) a4, ?_, ?_, ?_, ?_, by simp, .cons hv .nil⟩
  · exact Sub.consL (List.mem_cons_self) (Sub.consL (List.mem_cons_of_mem _ List.mem_cons_self) (Sub.consL (List.mem_cons_of_mem _ (List.mem_cons_of_mem _ List.mem_cons_self)) (((Sub.skip hB).skip).skip.skip)))
  · intro x hx; rw [List.mem_singleton.mp hx]; exact a1
  · intro y hy
    simp only [List.mem_cons] at hy
    rcases hy with rfl | rfl | rfl | rfl | hy
    · exact Nat.ne_of_lt l5
    · exact Nat.ne_of_lt (Nat.lt_trans l4 l5)
    · exact Nat.ne_of_lt (Nat.lt_trans (Nat.lt_trans l3 l4) l5)
    · exact Nat.ne_of_lt (Nat.lt_trans h1 b5)
    · exact Nat.ne_of_lt (a5 y hy)
  · intro x hx; rw [List.mem_singleton.mp hx]; exact Nat.ne_of_lt b5
  · intro x hx y hy
    rw [List.mem_singleton.mp hx]
    simp only [List.mem_cons] at hy
    rcases hy with rfl | rfl | rfl | rfl | hy
    · exact Nat.ne_of_gt b4
    · exact Nat.ne_of_gt b3
    · exact Nat.ne_of_gt l2
    · exact Nat.ne_of_lt h1
    · exact Nat.ne_of_lt (a1 y hy)
theorem init_sub {fl dq e1 e0 p : Addr} {d o1 o0 oi of : Obj} {q : Addr × Obj} : ∀ y ∈ (fl, of) :: ([(dq, d)] ++ ((e1, o1) :: (e0, o0) :: (p, oi) :: q :: news)), y ∈ (fl, of) :: (e1, o1) :: (e0, o0) :: (p, oi) :: (dq, d) :: q :: news := by
  intro y hy
  simp only [List.mem_cons, List.mem_append, List.not_mem_nil, or_false] at hy ⊢
  rcases hy with hy | hy | hy | hy | hy | hy | hy <;> simp [hy]
theorem join_told {RR : List (Addr × Obj)} {il : Value} {nl : Nat} {es : List Value} (_ : es.length ≤ 3) (_ : ILen RR il nl) (_ : Fr h₀ L s.heap m) (_ : News h₀ L s.heap news) (first : wpAny M A T' (JoinEnd h₀ L s (Str.ofString "told") m news (fun r' => r' = (ledN es.length nl : Int))) E s)
    (next : ∀ r' t' h tk, r' = (ledN es.length nl : Int) → Fr h₀ L h (fun z => if z = Str.ofString "told" then some (.int r' t') else m z) → News h₀ L h news → Q .next { s with heap := h, toks := tk }) : wpAny M A T' Q E s :=
  join_int _ _ first next
/-- the end of a statement that leaves one truth in `x` -/
def JoinB (h₀ : Heap) (L : Addr) (s : Shared) (x : Str) (m : Str → Option Value) (news : List (Addr × Obj)) (b : Bool) (f : Flow) (s' : Shared) : Prop :=
  f = .next ∧ ∃ h tk m', s' = { s with heap := h, toks := tk } ∧ Fr h₀ L h m' ∧ News h₀ L h news ∧ m' x = some (.bool b) ∧ ∀ z, z ≠ x → m' z = m z
theorem JoinB.intro {x : Str} {m' : Str → Option Value} {news' : List (Addr × Obj)} {b b' : Bool} {h : Heap} {tk : Nat} (F : Fr h₀ L h m') (N : News h₀ L h news') (hs : ∀ p ∈ news, p ∈ news') (hx : m' x = some (.bool b')) (hz : ∀ z, z ≠ x → m' z = m z) (hb : b' = b) :
    JoinB h₀ L s x m news b .next { s with heap := h, toks := tk } := ⟨rfl, h, tk, m', rfl, F, fun p hp => N p (hs p hp), hb ▸ hx, hz⟩
theorem join_single {TT TT2 : List (Addr × Obj)} {told : Int} {k nl dix lc nn : Nat} {cs : List Value} {uq : Bool} {v0 v1 v2 v5 v6 : Value} {t t0 t1 t2 t3 t4 t5 t6 : Tok}
    (_ : (dix, indexD w v0 v1 v2 (.ref lc) (.bool uq) v5 v6 t0 t1 t2 t3 t4 t5 t6) ∈ TT) (_ : (lc, listOf cs.toArray nn) ∈ TT2) (_ : m (Str.ofString "told") = some (.int told t)) (_ : told = (ledN k nl : Int)) (_ : Fr h₀ L s.heap m) (_ : News h₀ L s.heap news)
    (first : wpAny M A T' (JoinB h₀ L s (Str.ofString "is_single") m news (uq && decide (ledN k nl = cs.length))) E s)
    (next : ∀ h tk, Fr h₀ L h (fun z => if z = Str.ofString "is_single" then some (.bool (uq && decide (ledN k nl = cs.length))) else m z) → News h₀ L h news → Q .next { s with heap := h, toks := tk }) : wpAny M A T' Q E s := by
  refine wpAny_mono first (fun f s' p => ?_) fun _ _ e => e
  obtain ⟨rfl, h, tk, m', rfl, F, N, hx, hz⟩ := p
  have e : m' = fun z => if z = Str.ofString "is_single" then some (.bool (uq && decide (ledN k nl = cs.length))) else m z := by
    funext z
    by_cases h1 : z = Str.ofString "is_single"
    · rw [if_pos h1, h1, hx]
    · rw [if_neg h1]; exact hz z h1
  exact next h tk (e ▸ F) N
theorem sing_t {uq : Bool} {told : Int} {k nl c : Nat} (h : uq = true) (ht : told = (ledN k nl : Int)) : (told == (c : Int)) = (uq && decide (ledN k nl = c)) := by
  subst ht; rw [h, Bool.true_and]
  by_cases e : ledN k nl = c
  · simp [e]
  · simp only [e, decide_false, beq_eq_false_iff_ne, ne_eq]; omega
theorem sing_f {uq b : Bool} (h : uq = false) : false = (uq && b) := by rw [h]; rfl
theorem sing_f' {uq b : Bool} (h : uq = false) : uq = (uq && b) := by rw [h]; rfl
theorem led_none {k nl : Nat} (h : nl = 0) : (k : Int) + 0 = (ledN k nl : Int) := by unfold ledN; rw [if_pos h]; omega
theorem led_some {k nl : Nat} (h : nl ≠ 0) : (k : Int) + 1 = (ledN k nl : Int) := by unfold ledN; rw [if_neg h]; omega
theorem perI_t {cov : Bool} (h : cov = true) : perI cov = 2 := by rw [h]; rfl
theorem perI_f {cov : Bool} (h : cov = false) : perI cov = 3 := by rw [h]; rfl
theorem unr_idx {I dq : Addr} {it d' : Obj} {rest : (Str → Option Value) → List (Addr × Obj) → Prop} {s₁ : Shared} {h' : Heap} {tk : Nat} {m' : Str → Option Value} {RR : List (Addr × Obj)} (F : Fr h₀ L h' m') (N : News h₀ L h' ((dq, d') :: (I, it) :: RR)) (hne : ∀ q ∈ RR, q.1 ≠ I) (hdI : @Ne Nat dq I) (r : rest m' ((dq, d') :: RR)) :
    UnrEnd h₀ L s₁ I it rest { s₁ with heap := h', toks := tk } :=
  UnrEnd.intro F N ((dq, d') :: RR) (fun p hp => by
    rcases List.mem_cons.mp hp with e | hp
    · exact e ▸ List.mem_cons_of_mem _ List.mem_cons_self
    · rcases List.mem_cons.mp hp with e | hp
      · exact e ▸ List.mem_cons_self
      · exact List.mem_cons_of_mem _ (List.mem_cons_of_mem _ hp)) (fun p hp => by
    rcases List.mem_cons.mp hp with e | hp
    · exact e ▸ hdI
    · exact hne p hp) r
theorem unr_head {I hb : Addr} {it : Obj} {s₁ : Shared} {h' : Heap} {tk : Nat} {m' m₀ : Str → Option Value} {all : List (Addr × Obj)} {hs hs' : List Value} {n' : Nat} {x : Str} {st : List Str} (F : Fr h₀ L h' m') (N : News h₀ L h' all) (hsub : ∀ p ∈ (I, it) :: (hb, listOf hs'.toArray n') :: news, p ∈ all) (hne : ∀ q ∈ news, q.1 ≠ I) (hbI : @Ne Nat hb I) (h1 : hs'.length ≤ hs.length + 1) (h2 : ∀ v ∈ hs', BoundIn w R v) (hz : ∀ z, z ≠ x → st.contains z = false → m' z = m₀ z) :
    UnrEnd h₀ L s₁ I it (fun m' n' => (∃ (hs' : List Value) (n'' : Nat), n' = (hb, listOf hs'.toArray n'') :: news ∧ hs'.length ≤ hs.length + 1 ∧ ∀ v ∈ hs', BoundIn w R v) ∧ ∀ z, z ≠ x → st.contains z = false → m' z = m₀ z) { s₁ with heap := h', toks := tk } :=
  UnrEnd.intro F N _ hsub (fun p hp => by
    rcases List.mem_cons.mp hp with e | hp
    · exact e ▸ hbI
    · exact hne p hp) ⟨⟨hs', n', rfl, h1, h2⟩, hz⟩
theorem IState.fin {cov uq : Bool} {nc : Nat} {fl : Addr} {vs : List Value} {T D D' R' K : List (Addr × Obj)} (st : IState w cov R news fl vs T D R' K) (hm : D'.map Prod.fst = D.map Prod.fst) :
    Sub news (D' ++ R') ∧ Sub R (D' ++ K) ∧ Sub (D' ++ K) (D' ++ R') ∧ Fresh R news (D' ++ K) ∧ ∀ p ∈ D' ++ R', p.1 ≠ fl := by
  have key : ∀ p ∈ D', ∃ d ∈ D, d.1 = p.1 := fun p hp => by
    have h1 : p.1 ∈ D.map Prod.fst := hm ▸ List.mem_map_of_mem hp
    obtain ⟨d, hd, e⟩ := List.mem_map.mp h1
    exact ⟨d, hd, e⟩
  refine ⟨fun p hp => List.mem_append_right _ (st.n p hp), fun p hp => List.mem_append_right _ (st.r p hp), fun p hp => ?_, fun p hp => ?_, fun p hp => ?_⟩
  · rcases List.mem_append.mp hp with hp | hp
    · exact List.mem_append_left _ hp
    · exact List.mem_append_right _ (st.k p hp)
  · rcases List.mem_append.mp hp with hp | hp
    · obtain ⟨d, hd, e⟩ := key p hp
      exact .inr (fun x hx => e ▸ st.fd d hd x hx)
    · exact st.f p hp
  · rcases List.mem_append.mp hp with hp | hp
    · obtain ⟨d, hd, e⟩ := key p hp
      exact e ▸ st.dfl d hd
    · exact st.ne p hp
end
section
variable {prog : Program} {w : World} {A : Around} {E : Value → Shared → Prop} {s : Shared} {env : Env} {h₀ : Heap} {x : Str} {body : List Stmt} {Q : Flow → Shared → Prop} {R news : List (Addr × Obj)}
theorem head_loop {tb hb lc : Addr} {n₀ ncs : Nat} {cs : List Value} {m₀ : Str → Option Value} (stored : List Str) (_ : TableIn w R tb)
    (hh : A.handled = none) (F : Fr h₀ env.locals s.heap m₀) (N : News h₀ env.locals s.heap ((hb, listOf #[] n₀) :: news)) (hlc : (lc, listOf cs.toArray ncs) ∈ news) (hcs : ∀ v, v ∈ cs → ColIn R v) (hc3 : cs.length ≤ 3)
    (turn : ∀ v (u : Str → Option Value) (hs : List Value) n (it : Obj) I h tk, ColIn R v → hs.length ≤ 2 → (∀ v, v ∈ hs → BoundIn w R v) → it.cls = .type "list_iterator" → (∀ q ∈ news, q.1 ≠ I) → (@Ne Nat hb I) →
      Fr h₀ env.locals h (fun z => if z = x then some v else if stored.contains z then u z else m₀ z) → News h₀ env.locals h ((I, it) :: (hb, listOf hs.toArray n) :: news) →
      wpAny (model prog w) A (execs body env) (UnrPost h₀ env.locals { s with heap := h, toks := tk } I it (fun m' n' => (∃ (hs' : List Value) (n'' : Nat), n' = (hb, listOf hs'.toArray n'') :: news ∧ hs'.length ≤ hs.length + 1 ∧ ∀ v ∈ hs', BoundIn w R v) ∧ ∀ z, z ≠ x → stored.contains z = false → m' z = m₀ z) Q) E { s with heap := h, toks := tk })
    (done : ∀ (u : Str → Option Value) (hs : List Value) n h tk, hs.length ≤ 3 → (∀ v, v ∈ hs → BoundIn w R v) → Fr h₀ env.locals h (fun z => if z = x then u z else if stored.contains z then u z else m₀ z) → News h₀ env.locals h ((hb, listOf hs.toArray n) :: news) → Q .next { s with heap := h, toks := tk }) :
    wpAny (model prog w) A (pyIter (.ref lc)) (fun it s₂ => LoopAtV prog w A h₀ env x body Q E it s₂) E s := by
  refine list_state stored (HeadK w R news hb) hh F N ⟨[], n₀, rfl, Nat.le_refl _, fun _ h => nomatch h⟩ (fun i nw hi => hi.mem hlc) ?_ ?_
  · rintro i v u nw it I h tk hv ⟨hs, n, rfl, h1, h2⟩ hit hoff hI F' N'
    have hi : i < cs.length := (List.getElem?_eq_some_iff.mp hv).1
    refine wpAny_mono (turn v u hs n it I h tk (hcs v (List.mem_of_getElem? hv)) (by omega) h2 hit (fun q hq => hoff q (List.mem_cons_of_mem _ hq)) (hoff _ List.mem_cons_self) F' N') (fun f s₂ q => ?_) fun _ _ e => e
    have fin : UnrEnd h₀ env.locals { s with heap := h, toks := tk } I it (fun m' n' => (∃ (hs' : List Value) (n'' : Nat), n' = (hb, listOf hs'.toArray n'') :: news ∧ hs'.length ≤ hs.length + 1 ∧ ∀ v ∈ hs', BoundIn w R v) ∧ ∀ z, z ≠ x → stored.contains z = false → m' z = m₀ z) s₂ →
        UnrEnd h₀ env.locals { s with heap := h, toks := tk } I it (fun m' n' => HeadK w R news hb (i + 1) n' ∧ ∀ z, z ≠ x → stored.contains z = false → m' z = m₀ z) s₂ := by
      rintro ⟨h2', tk2, m2, news2, e2, F2, N2, ho2, ⟨hs', n'', e3, h3, h4⟩, hmm⟩
      exact ⟨h2', tk2, m2, news2, e2, F2, N2, ho2, ⟨hs', n'', e3, by omega, h4⟩, hmm⟩
    cases f with
    | ret v => exact q
    | brk => exact q
    | next => exact fin q
    | cont => exact fin q
  · rintro u nw h tk ⟨hs, n, rfl, h1, h2⟩ F' N'
    exact done u hs n h tk (by omega) h2 F' N'
theorem guess_loop2 {fl ix dix lc : Addr} {oi : Obj} {vs cs : List Value} {n ncs : Nat} {cov uq : Bool} {T D R' K : List (Addr × Obj)} {v0 v1 v2 v5 v6 : Value} {y0 y1 y2 y3 y4 y5 y6 : Tok} {m₀ : Str → Option Value} (stored : List Str)
    (hx : IdxR R ix dix lc oi (indexD w v0 v1 v2 (.ref lc) (.bool uq) v5 v6 y0 y1 y2 y3 y4 y5 y6) (listOf cs.toArray ncs))
    (st : IState w cov R news fl vs T D R' K) (hh : A.handled = none) (F : Fr h₀ env.locals s.heap m₀) (N : News h₀ env.locals s.heap ((fl, listOf vs.toArray n) :: T))
    (turn : ∀ (u : Str → Option Value) (it : Obj) I h tk (RR : List (Addr × Obj)) (p dq e0 e1 : Addr) (es : List Value) (n nl : Nat) (bl bh : Bool) (ix' lo hi la ha il ia sg rw co : Value) (tk' t0 t1 t2 t3 t4 t5 t6 t7 t8 t9 t10 t11 t12 t13 t14 : Tok),
      (p, instObj 474 dq) ∈ RR → (e0, listOf es.toArray n) ∈ RR → es.length ≤ 3 → FlagL lo bl → FlagH hi bh → ILen RR il nl → Sub R RR → (ix, oi) ∈ RR → (dix, indexD w v0 v1 v2 (.ref lc) (.bool uq) v5 v6 y0 y1 y2 y3 y4 y5 y6) ∈ RR → (lc, listOf cs.toArray ncs) ∈ RR → (∀ q ∈ RR, q.1 ≠ dq) → it.cls = .type "list_iterator" → (∀ q ∈ RR, q.1 ≠ I) → (@Ne Nat dq I) →
      Fr h₀ env.locals h (fun z => if z = x then some (.ref p) else if stored.contains z then u z else m₀ z) →
      News h₀ env.locals h ((I, it) :: (dq, pathD w (.str (Str.ofString "index") tk') ix' e0 e1 lo hi la ha il ia (.bool cov) (.bool false) sg rw co t0 t1 t2 t3 t4 t5 t6 t7 t8 t9 t10 t11 t12 t13 t14) :: RR) →
      wpAny (model prog w) A (execs body env) (UnrPost h₀ env.locals { s with heap := h, toks := tk } I it (fun m' n' => (∃ tr tc, n' = (dq, pathD w (.str (Str.ofString "index") tk') ix' e0 e1 lo hi la ha il ia (.bool cov) (.bool false) (.bool ((uq && decide (ledN es.length nl = cs.length)) && decide (nl = 0))) (.int (gRows es.length bl bh nl (uq && decide (ledN es.length nl = cs.length))) tr) (.int (gCost es.length bl bh nl (uq && decide (ledN es.length nl = cs.length)) (perI cov)) tc) t0 t1 t2 t3 t4 t5 t6 t7 t8 t9 t10 t11 t12 t13 t14) :: RR) ∧ ∀ z, z ≠ x → stored.contains z = false → m' z = m₀ z) Q) E { s with heap := h, toks := tk })
    (done : ∀ (u : Str → Option Value) (D' : List (Addr × Obj)) h tk, D'.map Prod.fst = D.map Prod.fst → (∀ v ∈ vs, IdxPath w uq cs.length cov (D' ++ K) v) → Fr h₀ env.locals h (fun z => if z = x then u z else if stored.contains z then u z else m₀ z) → News h₀ env.locals h ((fl, listOf vs.toArray n) :: (D' ++ R')) → Q .next { s with heap := h, toks := tk }) :
    wpAny (model prog w) A (pyIter (.ref fl)) (fun it s₂ => LoopAtV prog w A h₀ env x body Q E it s₂) E s :=
  guess_loop stored uq cs.length st hh F N (fun u it I h tk RR p dq e0 e1 es n nl bl bh ix' lo hi la ha il ia sg rw co tk' t0 t1 t2 t3 t4 t5 t6 t7 t8 t9 t10 t11 t12 t13 t14 a1 a2 a3 a4 a5 a6 a7 _ a8 a9 a10 a11 F N =>
    have sr : Sub R RR := (st.r.trans st.k).trans a7
    turn u it I h tk RR p dq e0 e1 es n nl bl bh ix' lo hi la ha il ia sg rw co tk' t0 t1 t2 t3 t4 t5 t6 t7 t8 t9 t10 t11 t12 t13 t14 a1 a2 a3 a4 a5 a6 sr (sr _ hx.a) (sr _ hx.b) (sr _ hx.c) a8 a9 a10 a11 F N) done
end
end
section
section
local macro_rules | `(tactic| k_handed) => `(tactic| first | exact Flag.handed (FB.flag (by with_reducible assumption)) | exact Flag.handed (FlagL.f (by with_reducible assumption)) | exact Flag.handed (FlagH.f (by with_reducible assumption)) | exact Flag.handed (ILen.flag (by with_reducible assumption)))
set_option maxRecDepth 100000 in
set_option maxHeartbeats 8000000 in
theorem index_spec {w : World} {mean : ExcName → Option Value} {mg mb : Str → Option Value} {dp un : Nat} {gd : Option (List Code)} {cn : Str} {cs : Scope} {a : Addr} {ccd : Value} {cl : List (Str × Addr)} {outer : List Env} {A₀ : Around} {base h₀ : Heap} {L : Addr} {m : Str → Option Value} {s : Shared} {Q E : Value → Shared → Prop} {R news : List (Addr × Obj)} {tb lb ix dix lc : Addr} {bvs cols : List Value} {nb ncs : Nat} {uq cov : Bool} {v0 v1 v2 v5 v6 : Value} {y0 y1 y2 y3 y4 y5 y6 : Tok} (B : Below A₀ base outer h₀) (F : Fr h₀ L s.heap m) (X : Frag.In (KF w.params) h₀) (N : News h₀ L s.heap (news)) (T : Top VW (looseW VW LOOSE) mean mg mb h₀) (hk : cs.kind = .function)
    (hR : Sub R news) (hT : TableIn w R tb) (hlb : (lb, listOf bvs.toArray nb) ∈ R) (hlen : bvs.length ≤ 100) (hbs : ∀ v, v ∈ bvs → BoundIn w R v)
    (hx : IdxR R ix dix lc (instObj 617 dix) (indexD w v0 v1 v2 (.ref lc) (.bool uq) v5 v6 y0 y1 y2 y3 y4 y5 y6) (listOf cols.toArray ncs)) (hcs : ∀ v, v ∈ cols → ColIn R v) (hc3 : cols.length ≤ 3) (hd : dp < 450) (hu : un < 1500)
    (ret : ∀ (fl : Addr) (vs : List Value) (n : Nat) (R' K : List (Addr × Obj)) (h' : Heap) (tk' : Nat), Sub news R' → Sub R K → Sub K R' → Fresh R news K → (∀ p ∈ R', p.1 ≠ fl) → (∀ v ∈ vs, IdxPath w uq cols.length cov K v) → vs.length ≤ 3 → Fr h₀ L h' m → News h₀ L h' ((fl, listOf vs.toArray n) :: R') → Q (.ref fl) { s with heap := h', toks := tk' }) :
    wpAny (model PySem.Challenge.rw_nt0116_01.row.prog w) (ktrTop dp un gd cn cs L a ccd cl outer) (call (.ref 532) [.ref ix, .ref tb, .ref lb, .bool cov]) Q E s := by
  k_with_none
  k_with "compareOp IsNot none" => ((k_here; k_dflt (refine' flag_isnot (b := _) ?k1 ?_; (case k1 => first | exact FB.flag (by with_reducible assumption) | exact FlagL.f (by with_reducible assumption) | exact FlagH.f (by with_reducible assumption) | exact ILen.flag (by with_reducible assumption)); k_whole)))
  k_with "compareOp Is none" => ((k_here; k_dflt (refine' flag_is (b := _) ?k1 ?_; (case k1 => first | exact FB.flag (by with_reducible assumption) | exact FlagL.f (by with_reducible assumption) | exact FlagH.f (by with_reducible assumption) | exact ILen.flag (by with_reducible assumption)); k_whole)))
  k_with "call ref" => ((k_here; (with_reducible show wpAny _ _ (call (Value.ref 539) _) _ _ _); k_dflt (refine' newpath_spec ?B ?F ?X ?N ?T ?K ?hhb ?hR ?hbs ?hl ?dd ?uu ?_; (case B => k_asm); (case F => k_asm); (case X => k_asm); (case N => k_asm); (case T => k_asm); (case K => first | exact rfl | assumption); (case hhb => k_mem); (case hR => first | with_reducible assumption | exact Sub.trans (by with_reducible assumption) (fun p hp => by (repeat (first | exact hp | refine List.mem_cons_of_mem _ ?_)))); (case hbs => assumption); (case hl => assumption); (case dd => ktr_room); (case uu => ktr_units); k_whole); intro p' dq' e0' e1' es' ea' k0' k1' tk' tr' tc' t0' t1' t2' t3' t4' t5' t6' t7' t8' t9' t10' t11' t12' t13' t14' h' tk2' hes' l1' l2' l3' l4' F' N'; (have hes3' := Nat.le_trans (Nat.le_of_eq hes') (by assumption)); (have a2' := allLt_trans l1' l2'); (have a3' := allLt_trans a2' l3'); (have a4' := allLt_trans a3' l4'); (try simp only [AllLt, and_true] at l1'); (try simp only [AllLt, and_true] at a2'); (try simp only [AllLt, and_true] at a3'); (try simp only [AllLt, and_true] at a4'); (try replace l2' := ltN l2'); (try replace l3' := ltN l3'); (try replace l4' := ltN l4'); (try k_sweep); (try dsimp only); (try k_fold)))
  k_with "call ref" => ((k_here; (with_reducible show wpAny _ _ (call (Value.ref 485) _) _ _ _); k_dflt (refine' first_spec ?B ?F ?X ?N ?T ?K ?hlb ?hR ?hbs ?hf ?hc ?hT ?ho ?hy ?dd ?uu ?_; (case B => k_asm); (case F => k_asm); (case X => k_asm); (case N => k_asm); (case T => k_asm); (case K => first | exact rfl | assumption); (case hlb => first | k_mem | exact (Sub.trans (by with_reducible assumption) (fun p hp => by (repeat (first | exact hp | refine List.mem_cons_of_mem _ ?_)))).at _ (by assumption)); (case hR => first | with_reducible assumption | exact Sub.trans (by with_reducible assumption) (fun p hp => by (repeat (first | exact hp | refine List.mem_cons_of_mem _ ?_)))); (case hbs => assumption); (case hf => k_mem); (case hc => first | exact Or.inl rfl | exact Or.inr ⟨_, rfl⟩); (case hT => exact TableIn.mono (by assumption) (Sub.trans (by with_reducible assumption) (fun p hp => by (repeat (first | exact hp | refine List.mem_cons_of_mem _ ?_)))).at); (case ho => k_mem); (case hy => with_unfolding_all first | exact StrsAre.cons _ _ StrsAre.nil | exact StrsAre.cons _ _ (StrsAre.cons _ _ StrsAre.nil)); (case dd => ktr_room); (case uu => ktr_units); k_whole); intro v' b' h' tk' hfb' F' N'; (try k_sweep); (try dsimp only); (try k_fold)))
  k_with "call ref" => ((k_here; (with_reducible show wpAny _ _ (call (Value.ref 525) _) _ _ _); k_dflt (refine' fits_spec ?B ?F ?X ?N ?T ?K ?hc ?hT ?dd ?uu ?_; (case B => k_asm); (case F => k_asm); (case X => k_asm); (case N => k_asm); (case T => k_asm); (case K => first | exact rfl | assumption); (case hc => first | k_mem | exact (Sub.trans (by with_reducible assumption) (fun p hp => by (repeat (first | exact hp | refine List.mem_cons_of_mem _ ?_)))).at _ (by assumption)); (case hT => exact TableIn.mono (by assumption) (Sub.trans (by with_reducible assumption) (fun p hp => by (repeat (first | exact hp | refine List.mem_cons_of_mem _ ?_)))).at); (case dd => ktr_room); (case uu => ktr_units); k_whole); intro f' nf' h' tk' l1' F' N'; (try simp only [AllLt, and_true] at l1'); (try k_sweep); (try dsimp only); (try k_fold)))
  k_with "call ref" => ((k_here; (with_reducible show wpAny _ _ (call (Value.ref 513) _) _ _ _); k_dflt (refine' guess_at ?B ?F ?X ?N ?T ?K ?S ?hp ?hap ?he ?hk3 ?hlo ?hhi ?hil ?hper ?dd ?uu ?_; (case B => k_asm); (case F => k_asm); (case X => k_asm); (case N => k_asm); (case T => k_asm); (case K => first | exact rfl | assumption); (case S => repeat' (first | exact Sel.head | refine' Sel.tail ?_)); (case hp => k_mem); (case hap => k_all); (case he => k_mem); (case hk3 => first | omega | exact Nat.le_of_ble_eq_true rfl); (case hlo => first | with_reducible assumption | exact flagL0); (case hhi => first | with_reducible assumption | exact flagH0); (case hil => first | exact ilen0 | exact ILen.mono (by with_reducible assumption) (Sub.trans (by with_reducible assumption) (fun p hp => by (repeat (first | exact hp | refine List.mem_cons_of_mem _ ?_)))).at | exact ILen.mono (by with_reducible assumption) (fun p hp => by (repeat (first | exact hp | refine List.mem_cons_of_mem _ ?_)))); (case hper => first | decide | omega); (case dd => ktr_room); (case uu => ktr_units); k_whole); intro tr' tc' h' tk' F' N'; (try k_sweep); (try dsimp only); (try k_fold)))
  k_with "call ref" => ((k_here; (with_reducible show wpAny _ _ (call (Value.ref 506) _) _ _ _); k_dflt (refine' range_at ?B ?F ?X ?N ?T ?K ?S ?hp ?hap ?hlow ?hhigh ?dd ?uu ?_; (case B => k_asm); (case F => k_asm); (case X => k_asm); (case N => k_asm); (case T => k_asm); (case K => first | exact rfl | assumption); (case S => repeat' (first | exact Sel.head | refine' Sel.tail ?_)); (case hp => k_mem); (case hap => k_all); (case hlow => exact FB.bnd (by with_reducible assumption) (Sub.trans (by with_reducible assumption) (fun p hp => by (repeat (first | exact hp | refine List.mem_cons_of_mem _ ?_)))).at); (case hhigh => exact FB.bnd (by with_reducible assumption) (Sub.trans (by with_reducible assumption) (fun p hp => by (repeat (first | exact hp | refine List.mem_cons_of_mem _ ?_)))).at); (case dd => ktr_room); (case uu => ktr_units); k_whole); intro lo' hi' la' ha' h' tk' fl' fh' F' N'; (try k_sweep); (try dsimp only); (try k_fold)))
  k_with "call ref" => ((k_here; (with_reducible show wpAny _ _ (call (Value.ref 499) _) _ _ _); k_dflt (refine' list_at ?B ?F ?X ?N ?T ?K ?S ?hp ?hap ?hR ?hb ?dd ?uu ?_; (case B => k_asm); (case F => k_asm); (case X => k_asm); (case N => k_asm); (case T => k_asm); (case K => first | exact rfl | assumption); (case S => repeat' (first | exact Sel.head | refine' Sel.tail ?_)); (case hp => k_mem); (case hap => k_all); (case hb => exact FB.one (by with_reducible assumption) (by assumption) (fun _ h => h)); (case hR => first | with_reducible assumption | exact Sub.trans (by with_reducible assumption) (fun p hp => by (repeat (first | exact hp | refine List.mem_cons_of_mem _ ?_)))); (case dd => ktr_room); (case uu => ktr_units); k_whole); intro il' ia' nl' h' tk' hnl' hil' F' N'; (try k_sweep); (try dsimp only); (try k_fold)))
  k_with "call builtin:list.append" => ((k_here; (with_reducible show wpAny _ _ (call (Value.builtin _) [Value.ref _, _]) _ _ _); k_dflt (refine' append_led ?k1 ?k2 ?k3 ?z ?_; (case k1 => k_asm); (case k2 => k_asm); (case k3 => k_upd); (case z => omega); k_whole); intro h' F' N'; (try k_sweep)))
  k_with "subscriptTail" => ((k_here; (with_reducible show wpAny _ _ (subscriptTail _ _ (Value.ref _) (Value.int _ _)) _ _ _); (rename (∀ v, v ∈ _ → ColIn _ v) => hcs'); k_dflt (refine' item_led ?k1 ?k2 ?k3 ?k4 ?k5 ?_; (case k1 => k_asm); (case k2 => k_mem); (case k3 => omega); (case k4 => omega); (case k5 => omega); k_whole); intro v' hv' hi'; (have hv2' := hcs' v' hv'); (obtain ⟨c', pl', tp', tc', nc', ec', hc'⟩ := hv2'.elim); subst ec'))
  k_with "exec For Name Name cons nil" => ((k_here; (rename Fr _ _ _ _ => lF'); (rename News _ _ _ _ => lN'); (with_unfolding_all refine' For_invVF lF' ?k1 ?k2 ?_; (case k1 => exact rfl); (case k2 => exact rfl); k_whole)))
  k_with "exec For Name Attribute cons nil" => ((k_here; (rename Fr _ _ _ _ => lF'); (rename News _ _ _ _ => lN'); (with_unfolding_all refine' For_invVF lF' ?k1 ?k2 ?_; (case k1 => exact rfl); (case k2 => exact rfl); k_whole)))
  k_with "exec For Name Attribute cons nil" => ((k_here; (fail_if_success (with_reducible show wpAny _ _ _ (JoinS _ _ _ _ _ _) _ _)); (rename Fr _ _ _ _ => lF'); (rename News _ _ _ _ => lN'); (rename Base _ _ => hB'); k_dflt (refine' join_head (by assumption) hB' (by rfl) lF' lN' ?_ (fun u' hs' n' h' tk' hl' hg' F' N' => ?_))))
  k_with "pyIter ref" => ((k_here; (with_reducible show wpAny _ _ (pyIter (Value.ref _)) (fun it s₂ => LoopAtV _ _ _ _ _ _ _ _ _ it s₂) _ _); (rename Fr _ _ _ _ => lF'); (rename News _ _ _ _ => lN'); (with_unfolding_all refine' head_loop [Str.ofString "equal"] (by assumption) (by rfl) lF' lN' (by assumption) (by assumption) (by assumption) (fun v' u' hs' n' it' I' h' tk' hv' hl' hg' hit' hne' hbI' F' N' => ?_) (fun u' hs' n' h' tk' hl' hg' F' N' => ?_)); (first | ((obtain ⟨c', pl', tp', tc', nc', ec', hc'⟩ := hv'.elim); subst ec') | skip); (all_goals (try k_fold))))
  k_with "pyIter ref" => ((k_here; (with_reducible show wpAny _ _ (pyIter (Value.ref _)) (fun it s₂ => LoopAtV _ _ _ _ _ _ _ _ _ it s₂) _ _); (rename Fr _ _ _ _ => lF'); (rename News _ _ _ _ => lN'); (rename IState _ _ _ _ _ _ _ _ _ _ => st'); (rename IdxR _ _ _ _ _ _ _ => hx'); (with_unfolding_all refine' guess_loop2 [Str.ofString "told", Str.ofString "is_single"] hx' st' (by rfl) lF' lN' (fun u' it' I' h' tk' RR' p' dq' e0' e1' es' n' nl' bl' bh' ix' lo' hi' la' ha' il' ia' sg' rw' co' tk2' t0' t1' t2' t3' t4' t5' t6' t7' t8' t9' t10' t11' t12' t13' t14' hp' he' h3' fL' fH' iL' sR' hix' hdx' hlc' hne' hit' hoff' hdI' F' N' => ?_) (fun u' D' h' tk' hm' hg' F' N' => ?_)); (all_goals (try k_fold))))
  k_with "exec If" => ((k_here; (fail_if_success (with_reducible show wpAny _ _ _ (JoinS _ _ _ _ _ _) _ _)); (with_reducible show wpAny _ _ (exec (Stmt.If (Expr.Compare (Expr.Call _ _ _ _) _ _ _) _ _ _) _) _ _ _); (rename Fr _ _ _ _ => lF'); (rename News _ _ _ _ => lN'); (rename Base _ _ => hB'); (rename IdxR _ _ _ _ _ _ _ => hx');  k_dflt (refine' join_idx (xs := [Str.ofString "fits", Str.ofString "low", Str.ofString "high", Str.ofString "many", Str.ofString "path"]) 1 3 hx' (IState.init hB' ?l1 ?l2 ?l3 ?l4 ?l5 ?hv) (by rfl) (by k_mem) (Nat.le_refl 1) lF' lN' init_sub (fun vs' n' T' D' R' K' st' hq' hk' sT' hix' hdx' hlc' hqT' hne' N' => ?_) (fun u' vs' n' T' D' R' K' h' tk' st' hq' hk' sT' hix' hdx' hlc' hqT' hne' F' N' => ?_); (case l1 => assumption); (case l2 => assumption); (case l3 => assumption); (case l4 => assumption); (case l5 => first | assumption | exact And.left (by assumption)); (case hv => with_unfolding_all exact ⟨_, _, _, _, _, _, _, _, _, _, _, _, _, _, _, _, _, _, _, _, _, _, _, _, _, _, _, _, _, _, _, _, _, _, rfl, by k_mem, rfl, by k_mem, by assumption, by first | with_reducible assumption | exact flagL0, by first | with_reducible assumption | exact flagH0, by first | exact ilen0 | exact ILen.mono (by with_reducible assumption) (fun p hp => by (repeat (first | exact hp | refine List.mem_cons_of_mem _ ?_)))⟩))))
  k_with "exec If" => ((k_here; (fail_if_success (with_reducible show wpAny _ _ _ (JoinS _ _ _ [_] _ _) _ _)); (with_reducible show wpAny _ _ (exec (Stmt.If (Expr.BoolOp _ _ _) _ _ _) _) _ _ _); (rename Fr _ _ _ _ => lF'); (rename News _ _ _ _ => lN'); (rename Base _ _ => hB'); (rename IdxR _ _ _ _ _ _ _ => hx'); (rename IState _ _ _ _ _ _ _ _ _ _ => st0'); k_dflt (refine' join_idx (xs := [Str.ofString "path"]) 1 2 hx' st0' (by rfl) (by assumption) (by assumption) lF' lN' (fun p hp => by (repeat (first | exact hp | refine List.mem_cons_of_mem _ ?_))) (fun vs' n' T' D' R' K' st' hq' hk' sT' hix' hdx' hlc' hqT' hne' N' => ?_) (fun u' vs' n' T' D' R' K' h' tk' st' hq' hk' sT' hix' hdx' hlc' hqT' hne' F' N' => ?_))))
  k_with "exec If" => ((k_here; (fail_if_success (with_reducible show wpAny _ _ _ (JoinS _ _ _ [_] _ _) _ _)); (with_reducible show wpAny _ _ (exec (Stmt.If (Expr.Compare (Expr.Name (Str.ofString "many") _) _ _ _) _ _ _) _) _ _ _); (rename Fr _ _ _ _ => lF'); (rename News _ _ _ _ => lN'); (rename Base _ _ => hB'); (rename IdxR _ _ _ _ _ _ _ => hx'); (rename IState _ _ _ _ _ _ _ _ _ _ => st0'); k_dflt (refine' join_idx (xs := [Str.ofString "path"]) 2 3 hx' st0' (by rfl) (by assumption) (by assumption) lF' lN' (fun p hp => by (repeat (first | exact hp | refine List.mem_cons_of_mem _ ?_))) (fun vs' n' T' D' R' K' st' hq' hk' sT' hix' hdx' hlc' hqT' hne' N' => ?_) (fun u' vs' n' T' D' R' K' h' tk' st' hq' hk' sT' hix' hdx' hlc' hqT' hne' F' N' => ?_))))
  k_with "JoinS" => ((walk_plain_pass; (rename Fr _ _ _ _ => lF'); (rename News _ _ _ _ => lN'); (first | (refine JoinS.head lF' lN' (by first | exact fun p hp => hp | exact sub_cons (by k_mem) (fun p hp => by (repeat (first | exact hp | refine List.mem_cons_of_mem _ ?_)))) (by omega) (by assumption) (by intro z h1 h2; simp [h1, h2])) | ((rename IState _ _ _ _ _ _ _ _ _ _ => st'); first | (refine JoinS.path st' (by assumption) (by assumption) lF' lN' ?l1 (by assumption) (by assumption) (by assumption) ?hv (by intro z hz'; simp only [List.contains_cons, List.contains_nil, Bool.or_false, Bool.or_eq_false_iff, beq_eq_false_iff_ne, ne_eq] at hz'; simp [hz']); (case l1 => assumption); (case hv => with_unfolding_all exact ⟨_, _, _, _, _, _, _, _, _, _, _, _, _, _, _, _, _, _, _, _, _, _, _, _, _, _, _, _, _, _, _, _, _, _, rfl, by k_mem, rfl, by k_mem, by assumption, by first | with_reducible assumption | exact flagL0, by first | with_reducible assumption | exact flagH0, by first | exact ilen0 | exact ILen.mono (by with_reducible assumption) (Sub.trans (IState.r (by with_reducible assumption)) (fun p hp => by (repeat (first | exact hp | refine List.mem_cons_of_mem _ ?_)))).at⟩)) | (refine JoinS.same st' (by assumption) (by assumption) (by decide) lF' lN' (fun p hp => by (repeat (first | exact hp | refine List.mem_cons_of_mem _ ?_))) (by intro z hz'; simp only [List.contains_cons, List.contains_nil, Bool.or_false, Bool.or_eq_false_iff, beq_eq_false_iff_ne, ne_eq] at hz'; simp [hz']))))))
  k_with "UnrEnd" => (((rename Fr _ _ _ _ => lF'); (rename News _ _ _ _ => lN'); (first | (refine unr_idx lF' lN' (by assumption) (by assumption) ⟨⟨_, _, by first | rw [perI_t (by assumption)] | rw [perI_f (by assumption)]⟩, ?hz⟩; (case hz => intro z h1 h2; simp only [List.contains_cons, List.contains_nil, Bool.or_false, Bool.or_eq_false_iff, beq_eq_false_iff_ne, ne_eq] at h2; simp [h1, h2])) | (refine unr_head lF' lN' (sub_cons (by k_mem) (sub_cons (by k_mem) (fun p hp => by (repeat (first | exact hp | refine List.mem_cons_of_mem _ ?_))))) (by assumption) (by assumption) (by rw [List.length_append, List.length_singleton]; exact Nat.le_refl _) (all_snoc (by assumption) (FB.in (by with_reducible assumption) (by assumption) (fun _ h => h))) ?hz; (case hz => intro z h1 h2; simp only [List.contains_cons, List.contains_nil, Bool.or_false, Bool.or_eq_false_iff, beq_eq_false_iff_ne, ne_eq] at h2; simp [h1, h2])))))
  k_with "exec Assign" => ((k_here; (fail_if_success (with_reducible show wpAny _ _ _ (JoinEnd _ _ _ _ _ _ _) _ _)); (with_reducible show wpAny _ _ (exec (Stmt.Assign [Expr.Name (Str.ofString "told") _] _ _) _) _ _ _); (rename Fr _ _ _ _ => lF'); (rename News _ _ _ _ => lN'); (rename ILen _ _ _ => hil'); (rename (List.length _ ≤ 3) => h3'); k_dflt (refine' join_told h3' hil' lF' lN' ?_ (fun r' t' h' tk' er' F' N' => ?_))))
  k_with "exec Assign" => ((k_here; (fail_if_success (with_reducible show wpAny _ _ _ (JoinB _ _ _ _ _ _ _) _ _)); (with_reducible show wpAny _ _ (exec (Stmt.Assign [Expr.Name (Str.ofString "is_single") _] _ _) _) _ _ _); (rename Fr _ _ _ _ => lF'); (rename News _ _ _ _ => lN'); k_dflt (refine' join_single (by assumption) (by assumption) (by rfl) (by assumption) lF' lN' ?_ (fun h' tk' F' N' => ?_))))
  k_with "JoinEnd" => (((rename Fr _ _ _ _ => lF'); (rename News _ _ _ _ => lN'); (refine JoinEnd.intro lF' lN' (fun p hp => by (repeat (first | exact hp | refine List.mem_cons_of_mem _ ?_))) (by rfl) (by first | exact fun _ _ => rfl | exact fun _ h => if_neg h) (by first | exact led_none (by assumption) | exact led_none (Decidable.not_not.mp (by assumption)) | exact led_none (by simpa using (by assumption)) | exact led_some (by assumption)))))
  k_with "JoinB" => (((rename Fr _ _ _ _ => lF'); (rename News _ _ _ _ => lN'); (refine JoinB.intro lF' lN' (fun p hp => by (repeat (first | exact hp | refine List.mem_cons_of_mem _ ?_))) (by rfl) (by first | exact fun _ _ => rfl | exact fun _ h => if_neg h) (by first | exact sing_t (by assumption) (by assumption) | exact sing_f (by assumption) | exact sing_f' (by assumption)))))
  have hB : Base R news := hR
  have hxa := hR _ hx.a
  have hxb := hR _ hx.b
  have hxc := hR _ hx.c
  refine wpAny_call ?_
  k_dflt ktr_enter
  k_steps
  all_goals (rename News _ _ _ _ => kN; rename IState _ _ _ _ _ _ _ _ _ _ => st'; rename (List.map _ _ = List.map _ _) => hm'; have hf' := st'.fin (uq := uq) (nc := cols.length) hm'; refine' ret _ _ _ _ _ _ _ hf'.1 hf'.2.1 hf'.2.2.1 hf'.2.2.2.1 hf'.2.2.2.2 (by assumption) (by assumption) ?f9 kN; (case f9 => k_asm))
end
end
section
def CTurn (h₀ : Heap) (L : Addr) (m : Str → Option Value) (s : Shared) (src : Addr) (rest : List (Addr × Obj)) (G : List (Addr × Obj) → Value → Prop) (v : Value) (s' : Shared) : Prop :=
  ∃ (h' : Heap) (tk' : Nat) (K : List (Addr × Obj)) (x' y' : Int) (tx' ty' : Tok) (n' : Nat), s' = { s with heap := h', toks := tk' } ∧ 0 ≤ x' ∧ 0 ≤ y' ∧ y' < 2147483647 ∧ Fr h₀ L h' m ∧ News h₀ L h' ((src, listOf #[.int x' tx', .int y' ty'] n') :: (K ++ rest)) ∧ (∀ p ∈ K, ∀ q ∈ rest, q.1 ≠ p.1) ∧ (∀ p ∈ K, p.1 ≠ src) ∧ G K v
theorem CTurn.intro {h₀ : Heap} {L : Addr} {m : Str → Option Value} {s : Shared} {src : Addr} {rest K : List (Addr × Obj)} {G : List (Addr × Obj) → Value → Prop} {v : Value} {h' : Heap} {tk' : Nat} {x' y' : Int} {tx' ty' : Tok} {n' : Nat}
    (hx : 0 ≤ x') (hy : 0 ≤ y') (hy2 : y' < 2147483647) (F : Fr h₀ L h' m) (N : News h₀ L h' ((src, listOf #[.int x' tx', .int y' ty'] n') :: (K ++ rest))) (h1 : ∀ p ∈ K, ∀ q ∈ rest, q.1 ≠ p.1) (h2 : ∀ p ∈ K, p.1 ≠ src) (h3 : G K v) :
    CTurn h₀ L m s src rest G v { s with heap := h', toks := tk' } := ⟨h', tk', K, x', y', tx', ty', n', rfl, hx, hy, hy2, F, N, h1, h2, h3⟩
section
variable {prog : Program} {w : World} {A : Around} {h₀ : Heap} {L : Addr} {m : Str → Option Value} {env : Env} {elt : Expr} {xn : Str} {scope : Scope} {cl : List (Str × Addr)} {s : Shared} {S : List (Addr × Obj) → Prop} {P : Nat → Value → Prop} {Fin : List Value → List (Addr × Obj) → Prop}
theorem comp_src {n : Nat} {src : Addr} {base : List (Addr × Obj)} {x0 y0 : Int} {tx0 ty0 : Tok} {n0 : Nat} (hx0 : 0 ≤ x0) (hy0 : 0 ≤ y0) (hy1 : y0 < 2147483647) (hb : ∀ p ∈ base, p.1 ≠ src)
    (G : List (Addr × Obj) → Value → Prop) (mono : ∀ K K' v, (∀ p ∈ K, p ∈ K') → G K v → G K' v) (hS : ∀ nw, (∀ p ∈ base, p ∈ nw) → S nw)
    (turn : ∀ i v ys x y tx ty nn I oI C oC D m₂ h tk (E' : Value → Shared → Prop) (RR : List (Addr × Obj)), i < n → P i v → 0 ≤ x → 0 ≤ y → y < 2147483647 → LCg.NsObj oC m₂ → m₂ xn = some v → Sub base RR → (∀ p ∈ RR, p.1 ≠ src) → (@Ne Nat I src) → (@Ne Nat C src) → (@Ne Nat D src) → (@Ne Nat I C) → (@Ne Nat I D) → (@Ne Nat C D) → (∀ p ∈ RR, p.1 ≠ I) → (∀ p ∈ RR, p.1 ≠ C) → (∀ p ∈ RR, p.1 ≠ D) → Fr h₀ L h m →
      News h₀ L h ((I, oI) :: (C, oC) :: (D, LCg.lst ys) :: (src, listOf #[.int x tx, .int y ty] nn) :: RR) →
      wpAny (model prog w) A (eval elt (compEnvC scope cl C env)) (CTurn h₀ L m { s with heap := h, toks := tk } src ((I, oI) :: (C, oC) :: (D, LCg.lst ys) :: RR) G) E' { s with heap := h, toks := tk })
    (fin : ∀ ys K x y tx ty nn, 0 ≤ x → 0 ≤ y → y < 2147483647 → (∀ p ∈ K, p.1 ≠ src) → (∀ v, v ∈ ys → G K v) → ys.length = n → (∀ p ∈ K, ∀ q ∈ base, q.1 ≠ p.1) → Fin ys ((src, listOf #[.int x tx, .int y ty] nn) :: (base ++ K))) :
    LCg.CompRest prog w A h₀ L m env elt xn scope cl s S P Fin n 0 [] ((src, listOf #[.int x0 tx0, .int y0 ty0] n0) :: base) := by
  refine comp_inv (fun i ys nw => ∃ (K : List (Addr × Obj)) (x y : Int) (tx ty : Tok) (nn : Nat), nw = (src, listOf #[.int x tx, .int y ty] nn) :: (base ++ K) ∧ 0 ≤ x ∧ 0 ≤ y ∧ y < 2147483647 ∧ (∀ p ∈ K, p.1 ≠ src) ∧ (∀ v ∈ ys, G K v) ∧ ys.length = i ∧ ∀ p ∈ K, ∀ q ∈ base, q.1 ≠ p.1)
    ⟨[], x0, y0, tx0, ty0, n0, by rw [List.append_nil], hx0, hy0, hy1, fun _ h => (nomatch h), fun _ h => (nomatch h), rfl, fun _ h => (nomatch h)⟩ ?_ ?_
  · rintro i ys nw v I oI C oC D m₂ h tk E' hi ⟨K, x, y, tx, ty, nn, rfl, hx, hy, hy2, hK, hg, hl, hkb⟩ hP hC hxv F N off ne
    have offm := off.mem
    have hRs : ∀ p ∈ base ++ K, p.1 ≠ src := fun p hp => by
      rcases List.mem_append.mp hp with hp | hp
      · exact hb p hp
      · exact hK p hp
    have o0 := offm _ List.mem_cons_self
    refine wpAny_mono (turn i v ys x y tx ty nn I oI C oC D m₂ h tk E' (base ++ K) hi hP hx hy hy2 hC hxv (fun p hp => List.mem_append_left _ hp) hRs (Ne.symm o0.1) (Ne.symm o0.2.1) (Ne.symm o0.2.2) ne.1 ne.2.1 ne.2.2 (fun p hp => (offm p (List.mem_cons_of_mem _ hp)).1) (fun p hp => (offm p (List.mem_cons_of_mem _ hp)).2.1) (fun p hp => (offm p (List.mem_cons_of_mem _ hp)).2.2) F N) (fun b s₂ hq => ?_) fun _ _ e => e
    obtain ⟨h', tk', K2, x', y', tx', ty', n', rfl, hx', hy', hy2', F', N', k1, k2, k3⟩ := hq
    have perm : ∀ p ∈ (src, listOf #[.int x' tx', .int y' ty'] n') :: (base ++ (K ++ K2)), p ∈ (src, listOf #[.int x' tx', .int y' ty'] n') :: (K2 ++ ((I, oI) :: (C, oC) :: (D, LCg.lst ys) :: (base ++ K))) := by
      intro p hp
      simp only [List.mem_cons, List.mem_append] at hp ⊢
      rcases hp with hp | hp | hp | hp <;> simp [hp]
    refine ⟨h', tk', (src, listOf #[.int x' tx', .int y' ty'] n') :: (base ++ (K ++ K2)), rfl, F', fun p hp => ?_, LCg.Off3.of fun p hp => ?_, hS _ (fun p hp => List.mem_cons_of_mem _ (List.mem_append_left _ hp)), K ++ K2, x', y', tx', ty', n', rfl, hx', hy', hy2', ?_, ?_, ?_, ?_⟩
    · rcases List.mem_cons.mp hp with e | hp
      · exact N' p (by simp [e])
      · rcases List.mem_cons.mp hp with e | hp
        · exact N' p (by simp [e])
        · rcases List.mem_cons.mp hp with e | hp
          · exact N' p (by simp [e])
          · exact N' p (perm p hp)
    · rcases List.mem_cons.mp hp with e | hp
      · rw [e]; exact o0
      · simp only [List.mem_append] at hp
        rcases hp with hp | hp | hp
        · exact offm p (List.mem_cons_of_mem _ (List.mem_append_left _ hp))
        · exact offm p (List.mem_cons_of_mem _ (List.mem_append_right _ hp))
        · exact ⟨Ne.symm (k1 p hp (I, oI) (by simp)), Ne.symm (k1 p hp (C, oC) (by simp)), Ne.symm (k1 p hp (D, LCg.lst ys) (by simp))⟩
    · intro p hp
      rcases List.mem_append.mp hp with hp | hp
      · exact hK p hp
      · exact k2 p hp
    · exact all_snoc (fun v hv => mono _ _ v (fun p hp => List.mem_append_left _ hp) (hg v hv)) (mono _ _ b (fun p hp => List.mem_append_right _ hp) k3)
    · simp [hl]
    · intro p hp q hq
      rcases List.mem_append.mp hp with hp | hp
      · exact hkb p hp q hq
      · exact k1 p hp q (by simp [hq])
  · rintro ys nw ⟨K, x, y, tx, ty, nn, rfl, hx, hy, hy2, hK, hg, hl, hkb⟩
    exact fin ys K x y tx ty nn hx hy hy2 hK hg hl hkb
end
section
variable {h₀ : Heap} {L : Addr} {h : Heap}
/-- behind the paths: the found list and the source ahead again -/
theorem after_paths {R K R' : List (Addr × Obj)} {fd src fl : Addr} {of os ol : Obj} {Rest : List (Addr × Obj)} (hn : Sub ((fd, of) :: (src, os) :: Rest) R') (hK : Sub K R') (hf : Fresh R ((fd, of) :: (src, os) :: Rest) K) (hR : Sub R Rest) (hne : ∀ p ∈ R', p.1 ≠ fl) (h1 : ∀ p ∈ Rest, p.1 ≠ fd) (h2 : ∀ p ∈ Rest, p.1 ≠ src) (N : News h₀ L h ((fl, ol) :: R')) :
    ∃ Rest2, News h₀ L h ((fd, of) :: (src, os) :: Rest2) ∧ Sub Rest Rest2 ∧ Sub K Rest2 ∧ (fl, ol) ∈ Rest2 ∧ (∀ p ∈ Rest2, p.1 ≠ fd) ∧ (∀ p ∈ Rest2, p.1 ≠ src) := by
  have key : ∀ p ∈ K, p.1 ≠ fd ∧ p.1 ≠ src := fun p hp => by
    rcases hf p hp with h | h
    · exact ⟨h1 p (hR p h), h2 p (hR p h)⟩
    · exact ⟨Nat.ne_of_gt (h (fd, of) (by simp)), Nat.ne_of_gt (h (src, os) (by simp))⟩
  have f1 : fd ≠ fl := hne (fd, of) (hn _ (by simp))
  have f2 : src ≠ fl := hne (src, os) (hn _ (by simp))
  refine ⟨(fl, ol) :: (K ++ Rest), fun p hp => N p ?_, fun p hp => by simp [hp], fun p hp => by simp [hp], by simp, fun p hp => ?_, fun p hp => ?_⟩
  · simp only [List.mem_cons, List.mem_append] at hp ⊢
    rcases hp with hp | hp | hp | hp | hp
    · exact .inr (hn p (by simp [hp]))
    · exact .inr (hn p (by simp [hp]))
    · exact .inl hp
    · exact .inr (hK p hp)
    · exact .inr (hn p (by simp [hp]))
  · simp only [List.mem_cons, List.mem_append] at hp
    rcases hp with rfl | hp | hp
    · exact Ne.symm f1
    · exact (key p hp).1
    · exact h1 p hp
  · simp only [List.mem_cons, List.mem_append] at hp
    rcases hp with rfl | hp | hp
    · exact Ne.symm f2
    · exact (key p hp).2
    · exact h2 p hp
end
section
variable {prog : Program} {w : World} {A : Around} {E : Value → Shared → Prop} {s : Shared} {env : Env} {h₀ : Heap} {x : Str} {body : List Stmt} {Q : Flow → Shared → Prop}
theorem paths_loop {fl fd : Addr} {srcq : Addr × Obj} {vs fvs : List Value} {n nfl : Nat} {Rest : List (Addr × Obj)} {m₀ : Str → Option Value} {G : Value → Prop} (stored : List Str) (B : Nat)
    (hh : A.handled = none) (F : Fr h₀ env.locals s.heap m₀) (N : News h₀ env.locals s.heap ((fd, listOf fvs.toArray n) :: srcq :: Rest)) (hfl : (fl, listOf vs.toArray nfl) ∈ Rest) (hg : ∀ v ∈ vs, G v) (hA : ∀ v, G v → AnyPath w Rest v) (hfv : ∀ v, v ∈ fvs → AnyPath w Rest v) (hB : fvs.length + vs.length ≤ B)
    (turn : ∀ v (u : Str → Option Value) (ws : List Value) n' (it : Obj) I h tk, G v → ws.length < B → it.cls = .type "list_iterator" → (@Ne Nat fd I) → (@Ne Nat srcq.1 I) → (∀ p ∈ Rest, p.1 ≠ I) → Fr h₀ env.locals h (fun z => if z = x then some v else if stored.contains z then u z else m₀ z) → News h₀ env.locals h ((I, it) :: (fd, listOf ws.toArray n') :: srcq :: Rest) →
      wpAny (model prog w) A (execs body env) (UnrPost h₀ env.locals { s with heap := h, toks := tk } I it (fun m' nw => (∃ n'', nw = (fd, listOf (ws ++ [v]).toArray n'') :: srcq :: Rest) ∧ ∀ z, z ≠ x → stored.contains z = false → m' z = m₀ z) Q) E { s with heap := h, toks := tk })
    (done : ∀ (u : Str → Option Value) (ws : List Value) n' h tk, (∀ v, v ∈ ws → AnyPath w Rest v) → ws.length ≤ B → fvs.length ≤ ws.length → Fr h₀ env.locals h (fun z => if z = x then u z else if stored.contains z then u z else m₀ z) → News h₀ env.locals h ((fd, listOf ws.toArray n') :: srcq :: Rest) → Q .next { s with heap := h, toks := tk }) :
    wpAny (model prog w) A (pyIter (.ref fl)) (fun it s₂ => LoopAtV prog w A h₀ env x body Q E it s₂) E s := by
  refine list_state stored (fun i nw => ∃ (ws : List Value) (n' : Nat), nw = (fd, listOf ws.toArray n') :: srcq :: Rest ∧ (∀ v ∈ ws, AnyPath w Rest v) ∧ ws.length = fvs.length + i) hh F N ⟨fvs, n, rfl, hfv, rfl⟩ (fun i nw hi => by obtain ⟨_, _, rfl, _⟩ := hi; exact List.mem_cons_of_mem _ (List.mem_cons_of_mem _ hfl)) ?_ ?_
  · rintro i v u nw it I h tk hv ⟨ws, n', rfl, hw, hl⟩ hit hoff hI F' N'
    have hi : i < vs.length := (List.getElem?_eq_some_iff.mp hv).1
    have hgv := hg v (List.mem_of_getElem? hv)
    refine wpAny_mono (turn v u ws n' it I h tk hgv (by omega) hit (hoff _ List.mem_cons_self) (hoff _ (by simp)) (fun p hp => hoff p (by simp [hp])) F' N') (fun f s₂ q => ?_) fun _ _ e => e
    have fin : UnrEnd h₀ env.locals { s with heap := h, toks := tk } I it (fun m' nw => (∃ n'', nw = (fd, listOf (ws ++ [v]).toArray n'') :: srcq :: Rest) ∧ ∀ z, z ≠ x → stored.contains z = false → m' z = m₀ z) s₂ →
        UnrEnd h₀ env.locals { s with heap := h, toks := tk } I it (fun m' nw => (∃ (ws : List Value) (n' : Nat), nw = (fd, listOf ws.toArray n') :: srcq :: Rest ∧ (∀ v ∈ ws, AnyPath w Rest v) ∧ ws.length = fvs.length + (i + 1)) ∧ ∀ z, z ≠ x → stored.contains z = false → m' z = m₀ z) s₂ := by
      rintro ⟨h2, tk2, m2, news2, e2, F2, N2, ho2, ⟨n'', e3⟩, hmm⟩
      exact ⟨h2, tk2, m2, news2, e2, F2, N2, ho2, ⟨_, _, e3, all_snoc hw (hA v hgv), by simp; omega⟩, hmm⟩
    cases f with
    | ret v => exact q
    | brk => exact q
    | next => exact fin q
    | cont => exact fin q
  · rintro u nw h tk ⟨ws, n', rfl, hw, hl⟩ F' N'
    exact done u ws n' h tk hw (by omega) (by omega) F' N'
end
theorem due_at {w : World} {mean : ExcName → Option Value} {mg mb : Str → Option Value} {dp un : Nat} {gd : Option (List Code)} {cn : Str} {cs : Scope} {a : Addr} {ccd : Value} {cl : List (Str × Addr)} {outer : List Env} {A₀ : Around} {base h₀ : Heap} {L : Addr} {m : Str → Option Value} {s : Shared} {Q E : Value → Shared → Prop} {news : List (Addr × Obj)} {p dq e0 e1 : Addr} {es : List Value} {n nl : Nat} {kd ix lo hi la ha il ia cv ds sg rw co : Value} {bl bh uq : Bool} {many per : Int} {t0 t1 t2 t3 t4 t5 t6 t7 t8 t9 t10 t11 t12 t13 t14 tm tp : Tok} {sg' : Bool} (B : Below A₀ base outer h₀) (F : Fr h₀ L s.heap m) (X : Frag.In (KF w.params) h₀) (N : News h₀ L s.heap (news)) (T : Top VW (looseW VW LOOSE) mean mg mb h₀) (hk : cs.kind = .function)
    (hq : (dq, pathD w kd ix e0 e1 lo hi la ha il ia cv ds sg rw co t0 t1 t2 t3 t4 t5 t6 t7 t8 t9 t10 t11 t12 t13 t14) ∈ news)
    (hp : (p, instObj 474 dq) ∈ news) (he : (e0, listOf es.toArray n) ∈ news) (hk3 : es.length ≤ 3) (hlo : FlagL lo bl) (hhi : FlagH hi bh) (hil : ILen news il nl) (hper : 1 ≤ per ∧ per ≤ 4) (hsg : (uq && decide ((ledN es.length nl : Int) = many)) = sg') (hd : dp < 470) (hu : un < 1700)
    (ret : ∀ (u : Addr) (tr tc : Tok) (nu : Nat) (h' : Heap) (tk' : Nat), AllLt u news → Fr h₀ L h' m →
      News h₀ L h' ((u, ({ cls := .type "tuple", data := .seq #[.int (gRows es.length bl bh nl sg') tr, .int (gCost es.length bl bh nl sg' per) tc, .bool (sg' && decide (nl = 0))] nu } : Obj)) :: news) → Q (.ref u) { s with heap := h', toks := tk' }) :
    wpAny (model PySem.Challenge.rw_nt0116_01.row.prog w) (ktrTop dp un gd cn cs L a ccd cl outer) (call (.ref 696) [.ref p, .bool uq, .int many tm, .int per tp]) Q E s :=
  due_spec B F X N T hk hq hp he hk3 hlo hhi hil hper hd hu (by rw [hsg]; exact ret)
end
section
structure Now (R Rest : List (Addr × Obj)) (fd src : Addr) : Prop where
  r : Sub R Rest
  d1 : ∀ p ∈ Rest, p.1 ≠ fd
  d2 : ∀ p ∈ Rest, p.1 ≠ src
  dd : @Ne Nat fd src
structure TailR (w : World) (R : List (Addr × Obj)) (tb lb ix dix lc pl cS cF fd src : Addr) (bvs cols ps : List Value) (nb ncs npl : Nat) (uq : Bool) (od : Obj) (oS oF : Obj) : Prop where
  T : TableIn w R tb
  lb : (lb, listOf bvs.toArray nb) ∈ R
  len : bvs.length ≤ 100
  bs : ∀ v, v ∈ bvs → BoundIn w R v
  x : IdxR R ix dix lc (instObj 617 dix) od (listOf cols.toArray ncs)
  od : ∃ (v0 v1 v2 v5 v6 : Value) (y0 y1 y2 y3 y4 y5 y6 : Tok), od = indexD w v0 v1 v2 (.ref lc) (.bool uq) v5 v6 y0 y1 y2 y3 y4 y5 y6
  cs : ∀ v, v ∈ cols → ColIn R v
  c3 : cols.length ≤ 3
  pl : (pl, listOf ps.toArray npl) ∈ R
  pc : ps.length = cols.length
  cS : (cS, oS) ∈ R
  dS : oS.data = .cell (some (.ref src))
  cF : (cF, oF) ∈ R
  dF : oF.data = .cell (some (.ref fd))
theorem row_call {w : World} {mean : ExcName → Option Value} {mg mb : Str → Option Value} {dp un : Nat} {gd : Option (List Code)} {cn : Str} {cs : Scope} {a : Addr} {ccd : Value} {cl : List (Str × Addr)} {outer : List Env} {A₀ : Around} {base h₀ : Heap} {L : Addr} {m : Str → Option Value} {s : Shared} {Q E : Value → Shared → Prop} {R Rest : List (Addr × Obj)} {tb lb ix dix lc pl cS cF fd src : Addr} {bvs cols ps : List Value} {nb ncs npl : Nat} {uq : Bool} {od oS oF of os : Obj} (B : Below A₀ base outer h₀) (F : Fr h₀ L s.heap m) (X : Frag.In (KF w.params) h₀) (N : News h₀ L s.heap ((fd, of) :: (src, os) :: Rest)) (T : Top VW (looseW VW LOOSE) mean mg mb h₀) (hk : cs.kind = .function)
    (H : TailR w R tb lb ix dix lc pl cS cF fd src bvs cols ps nb ncs npl uq od oS oF) (W : Now R Rest fd src) (hd : dp < 450) (hu : un < 1500)
    (ret : ∀ (fl : Addr) (vs : List Value) (n : Nat) (Rest2 : List (Addr × Obj)) (h' : Heap) (tk' : Nat), Now R Rest2 fd src → Sub Rest Rest2 → (fl, listOf vs.toArray n) ∈ Rest2 → (∀ v, v ∈ vs → RowPath w Rest2 v) → vs.length ≤ 3 → Fr h₀ L h' m → News h₀ L h' ((fd, of) :: (src, os) :: Rest2) → Q (.ref fl) { s with heap := h', toks := tk' }) :
    wpAny (model PySem.Challenge.rw_nt0116_01.row.prog w) (ktrTop dp un gd cn cs L a ccd cl outer) (call (.ref 518) [.ref tb, .ref lb]) Q E s :=
  rowid_spec B F X N T hk (R := R) (W.r.skip.skip) H.T H.lb H.len H.bs hd hu fun fl vs n R' K h' tk' h1 _ h3 h4 _ h6 h7 h8 F' N' => by
    obtain ⟨Rest2, N2, a1, a2, a3, a4, a5⟩ := after_paths h1 h3 h4 W.r h6 W.d1 W.d2 N'
    exact ret fl vs n Rest2 h' tk' ⟨W.r.trans a1, a4, a5, W.dd⟩ a1 a3 (fun v hv => (h7 v hv).mono a2) h8 F' N2
theorem idx_call {w : World} {mean : ExcName → Option Value} {mg mb : Str → Option Value} {dp un : Nat} {gd : Option (List Code)} {cn : Str} {cs : Scope} {a : Addr} {ccd : Value} {cl : List (Str × Addr)} {outer : List Env} {A₀ : Around} {base h₀ : Heap} {L : Addr} {m : Str → Option Value} {s : Shared} {Q E : Value → Shared → Prop} {R Rest : List (Addr × Obj)} {tb lb ix dix lc pl cS cF fd src : Addr} {bvs cols ps : List Value} {nb ncs npl : Nat} {uq cov : Bool} {od oS oF of os : Obj} (B : Below A₀ base outer h₀) (F : Fr h₀ L s.heap m) (X : Frag.In (KF w.params) h₀) (N : News h₀ L s.heap ((fd, of) :: (src, os) :: Rest)) (T : Top VW (looseW VW LOOSE) mean mg mb h₀) (hk : cs.kind = .function)
    (H : TailR w R tb lb ix dix lc pl cS cF fd src bvs cols ps nb ncs npl uq od oS oF) (W : Now R Rest fd src) (hd : dp < 450) (hu : un < 1500)
    (ret : ∀ (fl : Addr) (vs : List Value) (n : Nat) (Rest2 : List (Addr × Obj)) (h' : Heap) (tk' : Nat), Now R Rest2 fd src → Sub Rest Rest2 → (fl, listOf vs.toArray n) ∈ Rest2 → (∀ v, v ∈ vs → IdxPath w uq cols.length cov Rest2 v) → vs.length ≤ 3 → Fr h₀ L h' m → News h₀ L h' ((fd, of) :: (src, os) :: Rest2) → Q (.ref fl) { s with heap := h', toks := tk' }) :
    wpAny (model PySem.Challenge.rw_nt0116_01.row.prog w) (ktrTop dp un gd cn cs L a ccd cl outer) (call (.ref 532) [.ref ix, .ref tb, .ref lb, .bool cov]) Q E s := by
  obtain ⟨v0, v1, v2, v5, v6, y0, y1, y2, y3, y4, y5, y6, rfl⟩ := H.od
  refine index_spec B F X N T hk (R := R) (W.r.skip.skip) H.T H.lb H.len H.bs H.x H.cs H.c3 hd hu fun fl vs n R' K h' tk' h1 _ h3 h4 h6 h7 h8 F' N' => ?_
  obtain ⟨Rest2, N2, a1, a2, a3, a4, a5⟩ := after_paths h1 h3 h4 W.r h6 W.d1 W.d2 N'
  exact ret fl vs n Rest2 h' tk' ⟨W.r.trans a1, a4, a5, W.dd⟩ a1 a3 (fun v hv => (h7 v hv).mono a2) h8 F' N2
theorem sub_app {q1 q2 : Addr × Obj} {Rest K : List (Addr × Obj)} : ∀ p ∈ q1 :: q2 :: Rest, p ∈ q1 :: ((q2 :: Rest) ++ K) := by
  intro p hp
  simp only [List.mem_cons, List.mem_append, List.cons_append] at hp ⊢
  rcases hp with hp | hp | hp <;> simp [hp]
theorem sg_row {k nl : Nat} (h : ledN k nl = 1) : (true && decide ((ledN k nl : Int) = 1)) = true := by rw [h]; rfl
theorem sg_rng {b : Bool} : ((Str.ofString "rowid_range" == Str.ofString "rowid") && b) = false := by
  have e : (Str.ofString "rowid_range" == Str.ofString "rowid") = false := by decide
  rw [e]; rfl
theorem sg_idx {k nl c p : Nat} {uq : Bool} (h : p = c) : (uq && decide ((ledN k nl : Int) = (p : Int))) = (uq && decide (ledN k nl = c)) := by
  subst h
  by_cases e : ledN k nl = p
  · simp [e]
  · have : ¬ ((ledN k nl : Int) = (p : Int)) := by omega
    simp [e, this]
theorem RowPath.elim {w : World} {R : List (Addr × Obj)} {v : Value} (h : RowPath w R v) : (∃ (k : Nat) (bl bh : Bool) (nl : Nat), nl ≤ 3 ∧ PathIn w R v (Str.ofString "rowid") false k bl bh nl true 2 ∧ ledN k nl = 1) ∨
  (∃ (k : Nat) (bl bh : Bool) (nl : Nat), nl ≤ 3 ∧ PathIn w R v (Str.ofString "rowid_range") false k bl bh nl false 2) := h
theorem IdxPath.elim {w : World} {uq : Bool} {nc : Nat} {cov : Bool} {R : List (Addr × Obj)} {v : Value} (h : IdxPath w uq nc cov R v) : ∃ (k : Nat) (bl bh : Bool) (nl : Nat), nl ≤ 3 ∧ PathIn w R v (Str.ofString "index") cov k bl bh nl (uq && decide (ledN k nl = nc)) (perI cov) := h
section
variable {prog : Program} {w : World} {A : Around} {E : Value → Shared → Prop} {s : Shared} {Q : Value → Shared → Prop} {a b : Int} {t u : Tok}
theorem eq_same (h : a = b) (hq : Q (.bool true) s) : wpAny (model prog w) A (compareOp .Eq (.int a t) (.int b u)) Q E s := eq_int (by rw [h, beq_self_eq_true]; exact hq)
end
theorem finA_drop {h₀ : Heap} {L : Addr} {m : Str → Option Value} {s : Shared} {y : Str} {Q : Flow → Shared → Prop} {ys : List Value} {news news' : List (Addr × Obj)} (hs : ∀ p ∈ news', p ∈ news)
    (h : ∀ D h tk, Fr h₀ L h (fun z => if z = y then some (.ref D) else m z) → News h₀ L h ((D, LCg.lst ys) :: news') → (∀ p ∈ news', p.1 ≠ D) → Q .next { s with heap := h, toks := tk }) : LCg.FinA h₀ L m s y Q ys news :=
  fun D h' tk F N o => h D h' tk F (fun p hp => by
    rcases List.mem_cons.mp hp with e | hp
    · exact N p (e ▸ List.mem_cons_self)
    · exact N p (List.mem_cons_of_mem _ (hs p hp))) fun p hp => off1_ne o p (hs p hp)
section
variable {prog : Program} {w : World} {A : Around} {h₀ : Heap} {L : Addr} {m : Str → Option Value} {env : Env} {elt : Expr} {xn : Str} {scope : Scope} {cl : List (Str × Addr)} {s : Shared} {P : Nat → Value → Prop} {Fin : List Value → List (Addr × Obj) → Prop}
theorem comp_some {n : Nat} {src fd : Addr} {ol oS oF : Obj} {c1 c2 : Addr} {Rest : List (Addr × Obj)} {ws : List Value} {x0 y0 : Int} {tx0 ty0 : Tok} {n0 : Nat} (hx0 : 0 ≤ x0) (hy0 : 0 ≤ y0) (hy1 : y0 < 2147483647) (hd2 : ∀ p ∈ Rest, p.1 ≠ src) (hdd : @Ne Nat fd src) (_ : ∀ v, v ∈ ws → AnyPath w Rest v) (_ : oS.data = .cell (some (.ref src))) (_ : oF.data = .cell (some (.ref fd))) (hc1 : (c1, oS) ∈ Rest) (hc2 : (c2, oF) ∈ Rest)
    (turn : ∀ v ys x y tx ty nn I oI C oC D m₂ h tk (E' : Value → Shared → Prop) (RR : List (Addr × Obj)), 0 ≤ x → 0 ≤ y → y < 2147483647 → LCg.NsObj oC m₂ → m₂ xn = some v → (fd, ol) ∈ RR → (c1, oS) ∈ RR → (c2, oF) ∈ RR → (∀ p ∈ RR, p.1 ≠ src) → (@Ne Nat I src) → (@Ne Nat C src) → (@Ne Nat D src) → (@Ne Nat I C) → (@Ne Nat I D) → (@Ne Nat C D) → (∀ p ∈ RR, p.1 ≠ I) → (∀ p ∈ RR, p.1 ≠ C) → (∀ p ∈ RR, p.1 ≠ D) → Fr h₀ L h m →
      News h₀ L h ((I, oI) :: (C, oC) :: (D, LCg.lst ys) :: (src, listOf #[.int x tx, .int y ty] nn) :: RR) →
      wpAny (model prog w) A (eval elt (compEnvC scope cl C env)) (CTurn h₀ L m { s with heap := h, toks := tk } src ((I, oI) :: (C, oC) :: (D, LCg.lst ys) :: RR) (fun _ v => v ∈ ws)) E' { s with heap := h, toks := tk })
    (fin : ∀ ys K x y tx ty nn, (∀ v, v ∈ ys → v ∈ ws) → ys.length = n → Fin ys ((src, listOf #[.int x tx, .int y ty] nn) :: (((fd, ol) :: Rest) ++ K))) :
    LCg.CompRest prog w A h₀ L m env elt xn scope cl s (fun _ => True) P Fin n 0 [] ((src, listOf #[.int x0 tx0, .int y0 ty0] n0) :: (fd, ol) :: Rest) :=
  comp_src hx0 hy0 hy1 (fun p hp => by
    rcases List.mem_cons.mp hp with e | hp
    · exact e ▸ hdd
    · exact hd2 p hp) (fun _ v => v ∈ ws) (fun _ _ _ _ h => h) (fun _ _ => trivial)
    (fun _ v ys x y tx ty nn I oI C oC D m₂ h tk E' RR _ _ a1 a2 a3 a4 a5 a6 a7 a8 a9 a10 a11 a12 a13 a14 a15 a16 F N => turn v ys x y tx ty nn I oI C oC D m₂ h tk E' RR a1 a2 a3 a4 a5 (a6 _ List.mem_cons_self) (a6 _ (List.mem_cons_of_mem _ hc1)) (a6 _ (List.mem_cons_of_mem _ hc2)) a7 a8 a9 a10 a11 a12 a13 a14 a15 a16 F N)
    fun ys K x y tx ty nn _ _ _ _ h1 h2 _ => fin ys K x y tx ty nn h1 h2
end
end
section
def Blocked (p : Prop) : Prop := p
theorem dbg_keep {p : Prop} (h : Blocked p) : p := h
theorem tail_of {M : Model} {A : Around} {b b' : List Stmt} {env : Env} {Q : Flow → Shared → Prop} {E : Value → Shared → Prop} {s : Shared} (e : b = b') (h : wpAny M A (execs b' env) Q E s) : wpAny M A (execs b env) Q E s := e ▸ h
theorem unr_tail {h₀ : Heap} {L : Addr} {I fd : Addr} {it : Obj} {srcq : Addr × Obj} {s₁ : Shared} {h' : Heap} {tk : Nat} {m' m₀ : Str → Option Value} {all Rest : List (Addr × Obj)} {ws : List Value} {v : Value} {n' : Nat} {x : Str} {st : List Str} (F : Fr h₀ L h' m') (N : News h₀ L h' all) (hsub : ∀ p ∈ (I, it) :: (fd, listOf (ws ++ [v]).toArray n') :: srcq :: Rest, p ∈ all) (h1 : @Ne Nat fd I) (h2 : @Ne Nat srcq.1 I) (h3 : ∀ p ∈ Rest, p.1 ≠ I) (hz : ∀ z, z ≠ x → st.contains z = false → m' z = m₀ z) :
    UnrEnd h₀ L s₁ I it (fun m' nw => (∃ n'', nw = (fd, listOf (ws ++ [v]).toArray n'') :: srcq :: Rest) ∧ ∀ z, z ≠ x → st.contains z = false → m' z = m₀ z) { s₁ with heap := h', toks := tk } :=
  UnrEnd.intro F N _ hsub (fun p hp => by
    rcases List.mem_cons.mp hp with e | hp
    · exact e ▸ h1
    · rcases List.mem_cons.mp hp with e | hp
      · exact e ▸ h2
      · exact h3 p hp) ⟨⟨_, rfl⟩, hz⟩
section
set_option maxRecDepth 100000 in
set_option maxHeartbeats 8000000 in
theorem law_tail2 {w : World} {mean : ExcName → Option Value} {mg mb : Str → Option Value} {a : Addr} {ccd : Value} {base h₀ : Heap} {L : Addr} {m₁ : Str → Option Value} {s : Shared} {Q : Flow → Shared → Prop} {E : Value → Shared → Prop} {b : List Stmt} {sc : Scope}
    {Rest : List (Addr × Obj)} {fd src : Addr} {ws : List Value} {nf nn : Nat} {oS oF : Obj} {x y : Int} {tx ty : Tok}
    (hb : List.drop 11 lawRec.body = b) (hs : lawRec.scope = sc) (B : Below callerA base [] h₀) (X : Frag.In (KF w.params) h₀) (T : Top VW (looseW VW LOOSE) mean mg mb h₀)
    (F : Fr h₀ L s.heap m₁)
    (N : News h₀ L s.heap ((fd, listOf ws.toArray nf) :: (src, listOf #[.int x tx, .int y ty] nn) :: Rest))
    (hq4 : (L + 1, oS) ∈ Rest) (hdS : oS.data = .cell (some (.ref src))) (hq5 : (L + 1 + 1, oF) ∈ Rest) (hdF : oF.data = .cell (some (.ref fd)))
    (hd1 : ∀ p ∈ Rest, p.1 ≠ fd) (hd2 : ∀ p ∈ Rest, p.1 ≠ src) (hdd : @Ne Nat fd src) (hx0 : 0 ≤ x) (hy0 : 0 ≤ y) (hy1 : y < 2147483647) (hfv : ∀ v, v ∈ ws → AnyPath w Rest v) (hw1 : 1 ≤ ws.length) (hw7 : ws.length ≤ 7)
    (hE : PassesOwn (model RW0.row.prog w) (callerA.deeper (envOfC (Str.ofString "law") sc L a ccd)) (envOfC (Str.ofString "law") sc L a ccd) E)
    (ret : ∀ (m' : Str → Option Value) (h' : Heap) (tk' : Nat), Fr h₀ L h' m' → Q (.ret (.bool true)) { s with heap := h', toks := tk' }) :
    wpAny (model RW0.row.prog w) (callerA.deeper (envOfC (Str.ofString "law") sc L a ccd)) (execs b (envOfC (Str.ofString "law") sc L a ccd)) Q E s := by
  k_with_none
  k_with "call ref" => ((k_here; (with_reducible show wpAny _ _ (call (Value.ref 677) _) _ _ _); k_dflt (refine' take_at ?B ?F ?X ?N ?T ?K ?S ?hap ?t1 ?t2 ?x ?y ?y2 ?dd ?uu ?_; (case B => k_asm); (case F => k_asm); (case X => k_asm); (case N => k_asm); (case T => k_asm); (case K => first | exact rfl | assumption); (case S => repeat' (first | exact Sel.head | refine' Sel.tail ?_)); (case hap => k_all); (case t1 => omega); (case t2 => omega); (case x => assumption); (case y => assumption); (case y2 => assumption); (case dd => ktr_room); (case uu => ktr_units); k_whole); intro d' td' x' tx' y' ty' n' h' tk' d0' d1' x0' y0' y1' F' N'; (try k_sweep); skip; (all_goals (try dsimp only)); (all_goals (try k_fold))))
  k_with "call ref" => ((k_here; (with_reducible show wpAny _ _ (call (Value.ref 684) _) _ _ _); k_dflt (refine' one_spec ?B ?F ?X ?N ?T ?K ?S ?hap ?th ?t1 ?t2 ?x ?y ?y2 ?dd ?uu ?_; (case B => k_asm); (case F => k_asm); (case X => k_asm); (case N => k_asm); (case T => k_asm); (case K => first | exact rfl | assumption); (case S => repeat' (first | exact Sel.head | refine' Sel.tail ?_)); (case hap => k_all); (case th => k_mem); (case t1 => (try simp only [List.length_cons, List.length_nil]); omega); (case t2 => (try simp only [List.length_cons, List.length_nil]); omega); (case x => assumption); (case y => assumption); (case y2 => assumption); (case dd => ktr_room); (case uu => ktr_units); k_whole); intro v' x' tx' y' ty' n' h' tk' hv' x0' y0' y1' F' N'; (try k_sweep); skip; (try dsimp only); (try k_fold)))
  k_with "pyIter ref" => ((k_here; (with_reducible show wpAny _ _ (pyIter (Value.ref _)) (fun it s₂ => LoopAtV _ _ _ _ _ _ _ _ _ it s₂) _ _); (rename Fr _ _ _ _ => lF'); (rename News _ _ _ _ => lN'); (rename Tells _ _ _ _ => hT'); (with_unfolding_all refine' cost_loop (Str.ofString "total") (Str.ofString "ahead") (by decide) (by rfl) lF' lN' (by k_mem) (hT'.mono (fun p hp => by (repeat (first | exact hp | refine List.mem_cons_of_mem _ ?_)))) (by omega) (by rfl) (by rfl) (fun v' a' b' r' c' t1' t2' it' I' h' tk' hp' ha' hb' hr' hc' hbr' hit' hI' F' N' => ?_) (fun a' b' t1' t2' u' h' tk' ha' hb' ha2' hb2' F' N' => ?_)); (try k_lt hI'); (first | ((obtain ⟨p', dq', e0', e1', kd', ix', lo', hi', la', ha3', il', ia', cv', ds', sg', tr', tc', q0', q1', q2', q3', q4', q5', q6', q7', q8', q9', q10', q11', q12', q13', q14', ev', hm1', hm2'⟩ := hp'.elim); subst ev') | skip); (all_goals (try k_fold))))
  k_with "exec For Name Call cons nil" => ((k_here; (rename Fr _ _ _ _ => lF'); (rename News _ _ _ _ => lN'); (with_unfolding_all refine' For_invVF lF' ?k1 ?k2 ?_ (hE := by assumption); (case k1 => exact rfl); (case k2 => exact rfl); k_whole)))
  k_with "exec For Name Name cons nil" => ((k_here; (rename Fr _ _ _ _ => lF'); (rename News _ _ _ _ => lN'); (with_unfolding_all refine' For_invVF lF' ?k1 ?k2 ?_ (hE := by assumption); (case k1 => exact rfl); (case k2 => exact rfl); k_whole)))
  k_with "UnrEnd" => (((rename Fr _ _ _ _ => lF'); (rename News _ _ _ _ => lN'); first | (refine UnrEnd.intro lF' lN' _ (fun p hp => hp) (by k_all) ⟨rfl, ⟨_, _, _, _, rfl, rfl, by omega, by omega⟩, ?_⟩; intro z h1 h2 h3; simp only [if_neg h1, if_neg h2, if_neg h3]) | (refine unr_tail lF' lN' (sub_cons (by k_mem) (sub_cons (by k_mem) (sub_cons (by k_mem) (fun p hp => by (repeat (first | exact hp | refine List.mem_cons_of_mem _ ?_)))))) (by assumption) (by assumption) (by assumption) ?hz; (case hz => intro z h1 h2; simp only [List.contains_cons, List.contains_nil, Bool.or_false, Bool.or_eq_false_iff, beq_eq_false_iff_ne, ne_eq] at h2; simp [h1, h2]))))
  k_with "binaryOp Mult int int" => ((k_here; (refine mul_b9 (by omega) (by omega) ?_); intro v' ev' hv'))
  k_with "call ref" => ((k_here; (with_reducible show wpAny _ _ (call (Value.ref 553) _) _ _ _); (rename Tells _ _ _ _ => hT'); k_dflt (refine' cost_spec ?B ?F ?X ?N ?T ?K ?hl ?hv ?h3 ?dd ?uu ?_; (case B => k_asm); (case F => k_asm); (case X => k_asm); (case N => k_asm); (case T => k_asm); (case K => first | exact rfl | assumption); (case hl => k_mem); (case hv => exact hT'.mono (fun p hp => by (repeat (first | exact hp | refine List.mem_cons_of_mem _ ?_)))); (case h3 => omega); (case dd => ktr_room); (case uu => ktr_units); k_whole); intro v' t' h' tk' hcv' F' N'; (try k_sweep); (try dsimp only); (try k_fold)))
  k_with "compareOp Eq int int" => ((k_here; (refine eq_same (by first | omega | (simp only [if_true, Bool.false_eq_true, if_false] at *; omega)) ?_)))
  k_with "exec Assign cons ListComp" => ((k_here; lcg_look; k_dflt (refine LCg.Assign_ListComp_U (F₀ := by k_asm) (by rfl) (by with_unfolding_all rfl) (by rfl) (by decide) (by rfl) (by decide) (by rfl) (by rfl) (by rfl) ?_); k_dflt lcg_toSrc))
  k_with "CompSrc" => ((k_here; (rename (∀ v, v ∈ _ → AnyPath _ _ v) => hfv'); k_dflt (refine LCg.CompSrc.range (by rfl) (by k_asm) (by k_asm) (by assumption) (by exact small_one (by omega) (by omega) (by omega) (by omega)) (by exact rangeSize_nat _ _) (by rw [PySem.sizeLine_eq]; omega) ?_); intro g'; (refine' comp_some (by assumption) (by assumption) (by assumption) (by assumption) (by assumption) hfv' (by assumption) (by assumption) (by assumption) (by assumption) (fun v' ys' x' y' tx' ty' nn' I' oI' C' oC' D' m' h' tk' E' RR' hx0' hy0' hy1' hC' hxv' hr1' hr2' hr3' hRs' hIs' hCs' hDs' hIC' hID' hCD' hRI' hRC' hRD' F' N' => ?_) (fun ys' K' x' y' tx' ty' nn' hys' hyl' => finA_drop (news' := (_, _) :: (_, _) :: _) ?hs9 (fun D' h' tk' F' N' o1' => ?_)); (try (case hs9 => exact sub_app))); (all_goals (first | ((have hT9' := tells_of (fun v hv => hfv' v (hys' v hv))); (obtain ⟨rcs', hT'⟩ := hT9'); (have hyl2' := hyl')) | skip))))
  k_with "CTurn" => (((rename Fr _ _ _ _ => lF'); (rename News _ _ _ _ => lN'); (refine CTurn.intro (K := []) (by assumption) (by assumption) (by assumption) lF' lN' (fun _ h => nomatch h) (fun _ h => nomatch h) (by assumption))))
  subst hb
  refine tail_of (b' := ?b) ?e ?h
  case e => conv => { lhs; whnf }
  case h =>
    obtain rfl : _ = sc := (by conv at hs => { lhs; whnf }
                               exact hs)
    k_steps
    all_goals (refine' ret _ _ _ ?f9; (case f9 => k_asm))
end
section
set_option maxRecDepth 100000 in
set_option maxHeartbeats 8000000 in
theorem law_tail {w : World} {mean : ExcName → Option Value} {mg mb : Str → Option Value} {a : Addr} {ccd : Value} {base h₀ : Heap} {L : Addr} {m₁ : Str → Option Value} {s : Shared} {Q : Flow → Shared → Prop} {E : Value → Shared → Prop} {b : List Stmt} {sc : Scope}
    {R Rest : List (Addr × Obj)} {tb lb ix dix lc pl fd src sp : Addr} {bvs cols ps : List Value} {nb ncs npl nf nn : Nat} {uq cov : Bool} {od oS oF : Obj} {x y : Int} {tx ty : Tok}
    (hb : List.drop 9 lawRec.body = b) (hs : lawRec.scope = sc) (B : Below callerA base [] h₀) (X : Frag.In (KF w.params) h₀) (T : Top VW (looseW VW LOOSE) mean mg mb h₀)
    (F : Fr h₀ L s.heap (fun z => if z = Str.ofString "scan" then some (.ref sp) else if z = Str.ofString "is_covering" then some (.bool cov) else if z = Str.ofString "index" then some (.ref ix) else if z = Str.ofString "places" then some (.ref pl) else if z = Str.ofString "bounds" then some (.ref lb) else if z = Str.ofString "table" then some (.ref tb) else m₁ z))
    (N : News h₀ L s.heap ((fd, listOf #[.ref sp] nf) :: (src, listOf #[.int x tx, .int y ty] nn) :: Rest))
    (hTR : TailR w R tb lb ix dix lc pl (L + 1) (L + 1 + 1) fd src bvs cols ps nb ncs npl uq od oS oF) (hW : Now R Rest fd src) (hx0 : 0 ≤ x) (hy0 : 0 ≤ y) (hy1 : y < 2147483647) (hsp : AnyPath w R (.ref sp))
    (hE : PassesOwn (model RW0.row.prog w) (callerA.deeper (envOfC (Str.ofString "law") sc L a ccd)) (envOfC (Str.ofString "law") sc L a ccd) E)
    (ret : ∀ (m' : Str → Option Value) (h' : Heap) (tk' : Nat), Fr h₀ L h' m' → Q (.ret (.bool true)) { s with heap := h', toks := tk' }) :
    wpAny (model RW0.row.prog w) (callerA.deeper (envOfC (Str.ofString "law") sc L a ccd)) (execs b (envOfC (Str.ofString "law") sc L a ccd)) Q E s := by
  k_with_none
  k_with "call ref" => ((k_here; (with_reducible show wpAny _ _ (call (Value.ref 518) _) _ _ _); (rename TailR _ _ _ _ _ _ _ _ _ _ _ _ _ _ _ _ _ _ _ _ _ _ => hTR'); (rename Now _ _ _ _ => hW'); k_dflt (refine' row_call ?B ?F ?X ?N ?T ?K ?H ?W ?dd ?uu ?_; (case B => k_asm); (case F => k_asm); (case X => k_asm); (case N => k_asm); (case T => k_asm); (case K => first | exact rfl | assumption); (case H => exact hTR'); (case W => exact hW'); (case dd => ktr_room); (case uu => ktr_units); k_whole); intro fl' vs' n' Rest2' h' tk' hW2' hsub' hfl' hg' hlen' F' N'; (have hold' := hsub'); (have hq1' := hW2'.r.at _ hTR'.x.a); (have hq2' := hW2'.r.at _ hTR'.x.b); (have hq3' := hW2'.r.at _ hTR'.pl); (have hq4' := hW2'.r.at _ hTR'.cS); (have hq5' := hW2'.r.at _ hTR'.cF); (have hd1' := hW2'.d1); (have hd2' := hW2'.d2); (try k_sweep); (try dsimp only); (try k_fold)))
  k_with "call ref" => ((k_here; (with_reducible show wpAny _ _ (call (Value.ref 532) _) _ _ _); (rename TailR _ _ _ _ _ _ _ _ _ _ _ _ _ _ _ _ _ _ _ _ _ _ => hTR'); (rename Now _ _ _ _ => hW'); k_dflt (refine' idx_call ?B ?F ?X ?N ?T ?K ?H ?W ?dd ?uu ?_; (case B => k_asm); (case F => k_asm); (case X => k_asm); (case N => k_asm); (case T => k_asm); (case K => first | exact rfl | assumption); (case H => exact hTR'); (case W => exact hW'); (case dd => ktr_room); (case uu => ktr_units); k_whole); intro fl' vs' n' Rest2' h' tk' hW2' hsub' hfl' hg' hlen' F' N'; (have hold' := hsub'); (have hq1' := hW2'.r.at _ hTR'.x.a); (have hq2' := hW2'.r.at _ hTR'.x.b); (have hq3' := hW2'.r.at _ hTR'.pl); (have hq4' := hW2'.r.at _ hTR'.cS); (have hq5' := hW2'.r.at _ hTR'.cF); (have hd1' := hW2'.d1); (have hd2' := hW2'.d2); (try k_sweep); (try dsimp only); (try k_fold)))
  k_with "pyIter ref" => ((k_here; (with_reducible show wpAny _ _ (pyIter (Value.ref _)) (fun it s₂ => LoopAtV _ _ _ _ _ _ _ _ _ it s₂) _ _); (rename Fr _ _ _ _ => lF'); (rename News _ _ _ _ => lN'); (rename (∀ v, v ∈ _ → RowPath _ _ v) => hg'); (rename (∀ v, v ∈ _ → AnyPath _ _ v) => hfv'); (rename Sub _ _ => hsub'); (with_unfolding_all refine' paths_loop (w := _) [Str.ofString "due"] 4 (by rfl) lF' lN' (by assumption) hg' (fun v hv => RowPath.any hv) (fun v hv => (hfv' v hv).mono hsub') (by first | assumption | (simp only [List.length_cons, List.length_nil] at *; omega)) (fun v' u' ws' n' it' I' h' tk' hgv' hwl' hit' hfI' hsI' hRI' F' N' => ?_) (fun u' ws' n' h' tk' hw' hl' hle' F' N' => ?_)); (first | ((rcases hgv'.elim with ⟨k', bl', bh', nl', hnl', hP', hled'⟩ | ⟨k', bl', bh', nl', hnl', hP'⟩) <;> ((obtain ⟨p', dq', e0', e1', es', n', ix', lo', hi', la', ha', il', ia', ds', tk', tr', tc', t0', t1', t2', t3', t4', t5', t6', t7', t8', t9', t10', t11', t12', t13', t14', ev', hp', hdq', he', hek', hk3', fL', fH', iL'⟩ := hP'.elim); subst ev' hek')) | (clear hg' hfv'; (try simp only [List.length_cons, List.length_nil] at hle'))); (all_goals (try k_fold))))
  k_with "pyIter ref" => ((k_here; (with_reducible show wpAny _ _ (pyIter (Value.ref _)) (fun it s₂ => LoopAtV _ _ _ _ _ _ _ _ _ it s₂) _ _); (rename Fr _ _ _ _ => lF'); (rename News _ _ _ _ => lN'); (rename (∀ v, v ∈ _ → IdxPath _ _ _ _ _ v) => hg'); (rename (∀ v, v ∈ _ → AnyPath _ _ v) => hfv'); (rename Sub _ _ => hsub'); (with_unfolding_all refine' paths_loop (w := _) [Str.ofString "due"] 7 (by rfl) lF' lN' (by assumption) hg' (fun v hv => IdxPath.any hv) (fun v hv => (hfv' v hv).mono hsub') (by omega) (fun v' u' ws' n' it' I' h' tk' hgv' hwl' hit' hfI' hsI' hRI' F' N' => ?_) (fun u' ws' n' h' tk' hw' hl' hle' F' N' => ?_)); (first | ((obtain ⟨k', bl', bh', nl', hnl', hP'⟩ := hgv'.elim); (obtain ⟨p', dq', e0', e1', es', n', ix', lo', hi', la', ha', il', ia', ds', tk', tr', tc', t0', t1', t2', t3', t4', t5', t6', t7', t8', t9', t10', t11', t12', t13', t14', ev', hp', hdq', he', hek', hk3', fL', fH', iL'⟩ := hP'.elim); subst ev' hek') | (clear hg' hfv'; (try simp only [List.length_cons, List.length_nil] at hle'))); (all_goals (try k_fold))))
  k_with "exec For Name Call cons nil" => ((k_here; (rename Fr _ _ _ _ => lF'); (rename News _ _ _ _ => lN'); (with_unfolding_all refine' For_invVF lF' ?k1 ?k2 ?_ (hE := by assumption); (case k1 => exact rfl); (case k2 => exact rfl); k_whole)))
  k_with "exec For Name Name cons nil" => ((k_here; (rename Fr _ _ _ _ => lF'); (rename News _ _ _ _ => lN'); (with_unfolding_all refine' For_invVF lF' ?k1 ?k2 ?_ (hE := by assumption); (case k1 => exact rfl); (case k2 => exact rfl); k_whole)))
  k_with "call ref" => ((k_here; (with_reducible show wpAny _ _ (call (Value.ref 696) _) _ _ _); (rename TailR _ _ _ _ _ _ _ _ _ _ _ _ _ _ _ _ _ _ _ _ _ _ => hTR'); k_dflt (refine' due_at ?B ?F ?X ?N ?T ?K ?hq ?hp ?he ?hk3 ?hlo ?hhi ?hil ?hper ?hsg ?dd ?uu ?_; (case B => k_asm); (case F => k_asm); (case X => k_asm); (case N => k_asm); (case T => k_asm); (case K => first | exact rfl | assumption); (case hq => k_mem); (case hp => k_mem); (case he => k_mem); (case hk3 => assumption); (case hlo => with_reducible assumption); (case hhi => with_reducible assumption); (case hil => exact ILen.mono (by with_reducible assumption) (fun p hp => by (repeat (first | exact hp | refine List.mem_cons_of_mem _ ?_)))); (case hper => decide); (case hsg => first | exact sg_row (by assumption) | exact sg_rng | exact sg_idx hTR'.pc | rfl); (case dd => ktr_room); (case uu => ktr_units); k_whole); intro du' tr9' tc9' nu' h' tk' l1' F' N'; (try simp only [AllLt, and_true] at l1'); (try k_sweep); (try dsimp only); (try k_fold)))
  k_with "UnrEnd" => (((rename Fr _ _ _ _ => lF'); (rename News _ _ _ _ => lN'); first | (refine UnrEnd.intro lF' lN' _ (fun p hp => hp) (by k_all) ⟨rfl, ⟨_, _, _, _, rfl, rfl, by omega, by omega⟩, ?_⟩; intro z h1 h2 h3; simp only [if_neg h1, if_neg h2, if_neg h3]) | (refine unr_tail lF' lN' (sub_cons (by k_mem) (sub_cons (by k_mem) (sub_cons (by k_mem) (fun p hp => by (repeat (first | exact hp | refine List.mem_cons_of_mem _ ?_)))))) (by assumption) (by assumption) (by assumption) ?hz; (case hz => intro z h1 h2; simp only [List.contains_cons, List.contains_nil, Bool.or_false, Bool.or_eq_false_iff, beq_eq_false_iff_ne, ne_eq] at h2; simp [h1, h2]))))
  k_with "call builtin:list.append" => ((k_here; (with_reducible show wpAny _ _ (call (Value.builtin _) [Value.ref _, _]) _ _ _); k_dflt (refine' append_led ?k1 ?k2 ?k3 ?z ?_; (case k1 => k_asm); (case k2 => k_asm); (case k3 => k_upd); (case z => omega); k_whole); intro h' F' N'; (try k_sweep)))
  k_with "execs cons" => ((k_here; (with_reducible show wpAny _ _ (execs (Stmt.Assign [Expr.Name (Str.ofString "some") _] _ _ :: _) _) _ _ _); (refine dbg_keep ?_)))
  subst hb
  refine tail_of (b' := ?b) ?e ?h
  case e => conv => { lhs; whnf }
  case h =>
    obtain rfl : _ = sc := (by conv at hs => { lhs; whnf }
                               exact hs)
    have hRS := hW.r
    have hfv : ∀ v, v ∈ [Value.ref sp] → AnyPath w Rest v := fun v hv => by rw [List.mem_singleton.mp hv]; exact hsp.mono hRS
    have hdS := hTR.dS
    have hdF := hTR.dF
    obtain ⟨v0, v1, v2, v5, v6, y0, y1, y2, y3, y4, y5, y6, rfl⟩ := hTR.od
    have hq1 := hW.r _ hTR.x.a
    have hq2 := hW.r _ hTR.x.b
    have hq3 := hW.r _ hTR.pl
    have hq4 := hW.r _ hTR.cS
    have hq5 := hW.r _ hTR.cF
    have hd1 := hW.d1
    have hd2 := hW.d2
    have hdd := hW.dd
    have hps : ps.length ≤ 3 := by rw [hTR.pc]; exact hTR.c3
    k_steps
    all_goals (first
      | (unfold Blocked; (rename Fr _ _ _ _ => lF); (rename News _ _ _ _ => lN); (refine' law_tail2 (by conv => { lhs; whnf }) (by conv => { lhs; whnf }) ?B ?X ?T lF lN ?a1 ?a2 ?a3 ?a4 ?a5 ?a6 ?a7 ?a8 ?a9 ?b1 ?b2 ?b3 ?b4 ?hE ?rt; (case B => k_asm); (case X => k_asm); (case T => k_asm); (case a2 => exact hdS); (case a4 => exact hdF); (case a1 => assumption); (case a3 => assumption); (case a5 => assumption); (case a6 => assumption); (case a7 => assumption); (case a8 => assumption); (case a9 => assumption); (case b1 => assumption); (case b2 => assumption); (case b3 => (simp only [List.length_cons, List.length_nil] at *; omega)); (case b4 => omega); (case hE => assumption); (case rt => exact ret)))
      | (exfalso; rename ((_ != _) = true) => hc; simp at hc; done)
      | (exfalso; rename (_ ≠ _) => hc; first | (rw [perI_t (by assumption)] at hc; exact absurd rfl hc) | (rw [perI_f (by assumption)] at hc; exact absurd rfl hc))
      | w_report)
end
end
section
def IsI (v : Value) : Prop := ∃ i t, v = .int i t
theorem ints_nil : ∀ p, p ∈ ([] : List Value) → IsI p := fun _ h => nomatch h
theorem ints_cons {i : Int} {t : Tok} {l : List Value} (h : ∀ p, p ∈ l → IsI p) : ∀ p, p ∈ Value.int i t :: l → IsI p := fun p hp => by
  rcases List.mem_cons.mp hp with e | hp
  · exact ⟨i, t, e⟩
  · exact h p hp
theorem IsI.elim {v : Value} (h : IsI v) : ∃ i t, v = .int i t := h
theorem CTurn.one {h₀ : Heap} {L : Addr} {m : Str → Option Value} {s : Shared} {src t I C D : Addr} {o oI oC oD : Obj} {RR : List (Addr × Obj)} {G : List (Addr × Obj) → Value → Prop} {v : Value} {h' : Heap} {tk' : Nat} {x' y' : Int} {tx' ty' : Tok} {n' : Nat}
    (hx : 0 ≤ x') (hy : 0 ≤ y') (hy2 : y' < 2147483647) (F : Fr h₀ L h' m) (N : News h₀ L h' ((t, o) :: (I, oI) :: (C, oC) :: (D, oD) :: (src, listOf #[.int x' tx', .int y' ty'] n') :: RR)) (hl : @LT.lt Nat _ I t ∧ @LT.lt Nat _ C t ∧ @LT.lt Nat _ D t ∧ @LT.lt Nat _ src t ∧ AllLt t RR) (h3 : G [(t, o)] v) :
    CTurn h₀ L m s src ((I, oI) :: (C, oC) :: (D, oD) :: RR) G v { s with heap := h', toks := tk' } := by
  refine CTurn.intro (tx' := tx') (ty' := ty') (n' := n') (K := [(t, o)]) hx hy hy2 F (news_sub N fun p hp => ?_) (fun p hp q hq => ?_) (fun p hp => ?_) h3
  · simp only [List.mem_cons, List.mem_append, List.not_mem_nil, or_false] at hp ⊢
    rcases hp with hp | hp | hp | hp | hp | hp <;> simp [hp]
  · rw [List.mem_singleton.mp hp]
    simp only [List.mem_cons] at hq
    rcases hq with rfl | rfl | rfl | hq
    · exact Nat.ne_of_lt hl.1
    · exact Nat.ne_of_lt hl.2.1
    · exact Nat.ne_of_lt hl.2.2.1
    · exact Nat.ne_of_lt (ktn_ltOf hl.2.2.2.2 q hq)
  · rw [List.mem_singleton.mp hp]
    exact Nat.ne_of_gt hl.2.2.2.1
section
variable {prog : Program} {w : World} {A : Around} {h₀ : Heap} {L : Addr} {m : Str → Option Value} {env : Env} {elt : Expr} {xn : Str} {scope : Scope} {cl : List (Str × Addr)} {s : Shared} {Fin : List Value → List (Addr × Obj) → Prop}
/-- the columns of the index -/
theorem comp_cols {src pl cF : Addr} {oF : Obj} {Rest : List (Addr × Obj)} {ps : List Value} {npl : Nat} {x0 y0 : Int} {tx0 ty0 : Tok} {n0 : Nat} (hx0 : 0 ≤ x0) (hy0 : 0 ≤ y0) (hy1 : y0 < 2147483647) (hd2 : ∀ p ∈ Rest, p.1 ≠ src) (hdd : @Ne Nat cF src) (hpl : (pl, listOf ps.toArray npl) ∈ Rest) (hps : ∀ p, p ∈ ps → IsI p)
    (turn : ∀ i t ys x y tx ty nn I oI C oC D m₂ h tk (E' : Value → Shared → Prop) (RR : List (Addr × Obj)), 0 ≤ x → 0 ≤ y → y < 2147483647 → LCg.NsObj oC m₂ → m₂ xn = some (.int i t) → (pl, listOf ps.toArray npl) ∈ RR → (∀ p ∈ RR, p.1 ≠ src) → (@Ne Nat I src) → (@Ne Nat C src) → (@Ne Nat D src) → (@Ne Nat I C) → (@Ne Nat I D) → (@Ne Nat C D) → (∀ p ∈ RR, p.1 ≠ I) → (∀ p ∈ RR, p.1 ≠ C) → (∀ p ∈ RR, p.1 ≠ D) → Fr h₀ L h m →
      News h₀ L h ((I, oI) :: (C, oC) :: (D, LCg.lst ys) :: (src, listOf #[.int x tx, .int y ty] nn) :: RR) →
      wpAny (model prog w) A (eval elt (compEnvC scope cl C env)) (CTurn h₀ L m { s with heap := h, toks := tk } src ((I, oI) :: (C, oC) :: (D, LCg.lst ys) :: RR) ColIn) E' { s with heap := h, toks := tk })
    (hd3 : ∀ p ∈ Rest, p.1 ≠ cF)
    (fin : ∀ ys R2 x y tx ty nn, 0 ≤ x → 0 ≤ y → y < 2147483647 → Sub Rest R2 → (∀ p ∈ R2, p.1 ≠ src) → (∀ p ∈ R2, p.1 ≠ cF) → (∀ v, v ∈ ys → ColIn R2 v) → ys.length = ps.length → Fin ys ((src, listOf #[.int x tx, .int y ty] nn) :: (cF, oF) :: R2)) :
    LCg.CompRest prog w A h₀ L m env elt xn scope cl s (LCg.SrcAt h₀ pl ps.toArray) (fun i v => ps.toArray[i]? = some v) Fin ps.toArray.size 0 [] ((src, listOf #[.int x0 tx0, .int y0 ty0] n0) :: (cF, oF) :: Rest) := by
  rw [List.size_toArray]
  refine comp_src hx0 hy0 hy1 (fun p hp => by
    rcases List.mem_cons.mp hp with e | hp
    · exact e ▸ hdd
    · exact hd2 p hp) ColIn (fun K K' v hs h => h.mono hs) (fun nw hnw => .inr ⟨_, hnw _ (List.mem_cons_of_mem _ hpl), rfl, _, rfl⟩) ?_ (fun ys K x y tx ty nn a1 a2 a3 a4 a5 a6 a7 => fin ys (Rest ++ K) x y tx ty nn a1 a2 a3 (fun p hp => List.mem_append_left _ hp) (fun p hp => by
      rcases List.mem_append.mp hp with hp | hp
      · exact hd2 p hp
      · exact a4 p hp) (fun p hp => by
      rcases List.mem_append.mp hp with hp | hp
      · exact hd3 p hp
      · exact Ne.symm (a7 p hp (cF, oF) List.mem_cons_self)) (fun v hv => (a5 v hv).mono fun p hp => List.mem_append_right _ hp) a6)
  intro i v ys x y tx ty nn I oI C oC D m₂ h tk E' RR _ hv a1 a2 a3 a4 a5 a6 a7 a8 a9 a10 a11 a12 a13 a14 a15 a16 F N
  have hv2 : ps[i]? = some v := by rw [← List.getElem?_toArray]; exact hv
  obtain ⟨j, t, rfl⟩ := hps v (List.mem_of_getElem? hv2)
  exact turn j t ys x y tx ty nn I oI C oC D m₂ h tk E' RR a1 a2 a3 a4 a5 (a6 _ (List.mem_cons_of_mem _ hpl)) a7 a8 a9 a10 a11 a12 a13 a14 a15 a16 F N
/-- the bounds -/
theorem comp_bounds {n : Nat} {src : Addr} {base : List (Addr × Obj)} {c1 : Addr} {oS o2 : Obj} {x0 y0 : Int} {tx0 ty0 : Tok} {n0 : Nat} {S : List (Addr × Obj) → Prop} {P : Nat → Value → Prop} (hx0 : 0 ≤ x0) (hy0 : 0 ≤ y0) (hy1 : y0 < 2147483647) (hd2 : ∀ p ∈ base, p.1 ≠ src) (_ : oS.data = .cell (some (.ref src))) (hc1 : (c1, oS) ∈ base) (hc2 : (c1 + 1, o2) ∈ base) (hS : ∀ nw, S nw)
    (turn : ∀ v ys x y tx ty nn I oI C oC D m₂ h tk (E' : Value → Shared → Prop) (RR : List (Addr × Obj)), 0 ≤ x → 0 ≤ y → y < 2147483647 → LCg.NsObj oC m₂ → m₂ xn = some v → (c1, oS) ∈ RR → (∀ p ∈ RR, p.1 ≠ src) → (@Ne Nat I src) → (@Ne Nat C src) → (@Ne Nat D src) → (@Ne Nat I C) → (@Ne Nat I D) → (@Ne Nat C D) → (∀ p ∈ RR, p.1 ≠ I) → (∀ p ∈ RR, p.1 ≠ C) → (∀ p ∈ RR, p.1 ≠ D) → Fr h₀ L h m →
      News h₀ L h ((I, oI) :: (C, oC) :: (D, LCg.lst ys) :: (src, listOf #[.int x tx, .int y ty] nn) :: RR) →
      wpAny (model prog w) A (eval elt (compEnvC scope cl C env)) (CTurn h₀ L m { s with heap := h, toks := tk } src ((I, oI) :: (C, oC) :: (D, LCg.lst ys) :: RR) (BoundIn w)) E' { s with heap := h, toks := tk })
    (fin : ∀ ys K x y tx ty nn, 0 ≤ x → 0 ≤ y → y < 2147483647 → (∀ p ∈ K, p.1 ≠ src) → (∀ v, v ∈ ys → BoundIn w K v) → ys.length = n → (∀ p ∈ K, p.1 ≠ c1 + 1) → Fin ys ((src, listOf #[.int x tx, .int y ty] nn) :: (base ++ K))) :
    LCg.CompRest prog w A h₀ L m env elt xn scope cl s S P Fin n 0 [] ((src, listOf #[.int x0 tx0, .int y0 ty0] n0) :: base) :=
  comp_src hx0 hy0 hy1 hd2 (BoundIn w) (fun K K' v hs h => h.mono hs) (fun _ _ => hS _)
    (fun _ v ys x y tx ty nn I oI C oC D m₂ h tk E' RR _ _ a1 a2 a3 a4 a5 a6 a7 a8 a9 a10 a11 a12 a13 a14 a15 a16 F N => turn v ys x y tx ty nn I oI C oC D m₂ h tk E' RR a1 a2 a3 a4 a5 (a6 _ hc1) a7 a8 a9 a10 a11 a12 a13 a14 a15 a16 F N) fun ys K x y tx ty nn a1 a2 a3 a4 a5 a6 a7 => fin ys K x y tx ty nn a1 a2 a3 a4 a5 a6 fun p hp => Ne.symm (a7 p hp _ hc2)
end
end
section
theorem tail_use {w : World} {mean : ExcName → Option Value} {mg mb : Str → Option Value} {a : Addr} {ccd : Value} {base h₀ : Heap} {L : Addr} {m₁ : Str → Option Value} {s : Shared} {Q : Flow → Shared → Prop} {E : Value → Shared → Prop} {b : List Stmt} {sc : Scope}
    {l R2 : List (Addr × Obj)} {tb lb ix dix lc pl fd src sp dq e0 e1 : Addr} {bvs cols ps : List Value} {nb ncs npl nf nn : Nat} {uq cov : Bool} {oS oF : Obj} {v0 v1 v2 v5 v6 kd ix' lo hi la ha il ia cv ds sg : Value} {y0 y1 y2 y3 y4 y5 y6 tr tc t0 t1 t2 t3 t4 t5 t6 t7 t8 t9 t10 t11 t12 t13 t14 : Tok} {x y : Int} {tx ty : Tok}
    (hb : List.drop 9 lawRec.body = b) (hs : lawRec.scope = sc) (B : Below callerA base [] h₀) (X : Frag.In (KF w.params) h₀) (T : Top VW (looseW VW LOOSE) mean mg mb h₀)
    (F : Fr h₀ L s.heap (fun z => if z = Str.ofString "scan" then some (.ref sp) else if z = Str.ofString "is_covering" then some (.bool cov) else if z = Str.ofString "index" then some (.ref ix) else if z = Str.ofString "places" then some (.ref pl) else if z = Str.ofString "bounds" then some (.ref lb) else if z = Str.ofString "table" then some (.ref tb) else m₁ z))
    (N : News h₀ L s.heap l) (hdF : oF.data = .cell (some (.ref fd))) (g1 : (fd, listOf #[.ref sp] nf) ∈ l) (hdS : oS.data = .cell (some (.ref src))) (g2 : (src, listOf #[.int x tx, .int y ty] nn) ∈ l) (g3 : (sp, instObj 474 dq) ∈ l) (g4 : (dq, pathD w kd ix' e0 e1 lo hi la ha il ia cv ds sg (.int 1000 tr) (.int 2000 tc) t0 t1 t2 t3 t4 t5 t6 t7 t8 t9 t10 t11 t12 t13 t14) ∈ l) (g5 : (ix, instObj 617 dix) ∈ l) (g6 : (dix, indexD w v0 v1 v2 (.ref lc) (.bool uq) v5 v6 y0 y1 y2 y3 y4 y5 y6) ∈ l) (g7 : (lc, listOf cols.toArray ncs) ∈ l) (g8 : (L + 1 + 1, oF) ∈ l) (g9 : Sub R2 l)
    (n1 : ∀ p ∈ (sp, instObj 474 dq) :: (dq, pathD w kd ix' e0 e1 lo hi la ha il ia cv ds sg (.int 1000 tr) (.int 2000 tc) t0 t1 t2 t3 t4 t5 t6 t7 t8 t9 t10 t11 t12 t13 t14) :: (ix, instObj 617 dix) :: (dix, indexD w v0 v1 v2 (.ref lc) (.bool uq) v5 v6 y0 y1 y2 y3 y4 y5 y6) :: (lc, listOf cols.toArray ncs) :: (L + 1 + 1, oF) :: R2, p.1 ≠ fd) (n2 : ∀ p ∈ (sp, instObj 474 dq) :: (dq, pathD w kd ix' e0 e1 lo hi la ha il ia cv ds sg (.int 1000 tr) (.int 2000 tc) t0 t1 t2 t3 t4 t5 t6 t7 t8 t9 t10 t11 t12 t13 t14) :: (ix, instObj 617 dix) :: (dix, indexD w v0 v1 v2 (.ref lc) (.bool uq) v5 v6 y0 y1 y2 y3 y4 y5 y6) :: (lc, listOf cols.toArray ncs) :: (L + 1 + 1, oF) :: R2, p.1 ≠ src) (n3 : @Ne Nat fd src)
    (hT : TableIn w R2 tb) (hlb : (lb, listOf bvs.toArray nb) ∈ R2) (hlen : bvs.length ≤ 100) (hbs : ∀ v, v ∈ bvs → BoundIn w R2 v) (hpl : (pl, listOf ps.toArray npl) ∈ R2) (hps3 : ps.length ≤ 3) (hpc : cols.length = ps.length) (hcs : ∀ v, v ∈ cols → ColIn R2 v) (hcS : (L + 1, oS) ∈ R2) (hx0 : 0 ≤ x) (hy0 : 0 ≤ y) (hy1 : y < 2147483647)
    (hE : PassesOwn (model RW0.row.prog w) (callerA.deeper (envOfC (Str.ofString "law") sc L a ccd)) (envOfC (Str.ofString "law") sc L a ccd) E)
    (ret : ∀ (m' : Str → Option Value) (h' : Heap) (tk' : Nat), Fr h₀ L h' m' → Q (.ret (.bool true)) { s with heap := h', toks := tk' }) :
    wpAny (model RW0.row.prog w) (callerA.deeper (envOfC (Str.ofString "law") sc L a ccd)) (execs b (envOfC (Str.ofString "law") sc L a ccd)) Q E s := by
  have hs2 : ∀ p ∈ R2, p ∈ (sp, instObj 474 dq) :: (dq, pathD w kd ix' e0 e1 lo hi la ha il ia cv ds sg (.int 1000 tr) (.int 2000 tc) t0 t1 t2 t3 t4 t5 t6 t7 t8 t9 t10 t11 t12 t13 t14) :: (ix, instObj 617 dix) :: (dix, indexD w v0 v1 v2 (.ref lc) (.bool uq) v5 v6 y0 y1 y2 y3 y4 y5 y6) :: (lc, listOf cols.toArray ncs) :: (L + 1 + 1, oF) :: R2 := fun p hp => by simp [hp]
  refine law_tail (R := (sp, instObj 474 dq) :: (dq, pathD w kd ix' e0 e1 lo hi la ha il ia cv ds sg (.int 1000 tr) (.int 2000 tc) t0 t1 t2 t3 t4 t5 t6 t7 t8 t9 t10 t11 t12 t13 t14) :: (ix, instObj 617 dix) :: (dix, indexD w v0 v1 v2 (.ref lc) (.bool uq) v5 v6 y0 y1 y2 y3 y4 y5 y6) :: (lc, listOf cols.toArray ncs) :: (L + 1 + 1, oF) :: R2) (Rest := (sp, instObj 474 dq) :: (dq, pathD w kd ix' e0 e1 lo hi la ha il ia cv ds sg (.int 1000 tr) (.int 2000 tc) t0 t1 t2 t3 t4 t5 t6 t7 t8 t9 t10 t11 t12 t13 t14) :: (ix, instObj 617 dix) :: (dix, indexD w v0 v1 v2 (.ref lc) (.bool uq) v5 v6 y0 y1 y2 y3 y4 y5 y6) :: (lc, listOf cols.toArray ncs) :: (L + 1 + 1, oF) :: R2) (fd := fd) (src := src) (nf := nf) (nn := nn) hb hs B X T F (news_sub N (sub_cons g1 (sub_cons g2 (sub_cons g3 (sub_cons g4 (sub_cons g5 (sub_cons g6 (sub_cons g7 (sub_cons g8 g9))))))))) ⟨hT.mono hs2, hs2 _ hlb, hlen, fun v hv => (hbs v hv).mono hs2, ⟨by simp, List.mem_cons_of_mem _ (List.mem_cons_of_mem _ (List.mem_cons_of_mem _ List.mem_cons_self)), List.mem_cons_of_mem _ (List.mem_cons_of_mem _ (List.mem_cons_of_mem _ (List.mem_cons_of_mem _ List.mem_cons_self)))⟩, ⟨_, _, _, _, _, _, _, _, _, _, _, _, rfl⟩, fun v hv => (hcs v hv).mono hs2, by omega, hs2 _ hpl, hpc.symm, hs2 _ hcS, hdS, List.mem_cons_of_mem _ (List.mem_cons_of_mem _ (List.mem_cons_of_mem _ (List.mem_cons_of_mem _ (List.mem_cons_of_mem _ List.mem_cons_self)))), hdF⟩ ⟨Sub.refl, n1, n2, n3⟩ hx0 hy0 hy1 ⟨1000, 2000, ⟨⟨by decide, by decide⟩, by decide, by decide⟩, sp, dq, e0, e1, kd, ix', lo, hi, la, ha, il, ia, cv, ds, sg, tr, tc, t0, t1, t2, t3, t4, t5, t6, t7, t8, t9, t10, t11, t12, t13, t14, rfl, List.mem_cons_self, List.mem_cons_of_mem _ List.mem_cons_self⟩ hE ret
section
set_option maxRecDepth 100000 in
set_option maxHeartbeats 8000000 in
theorem law_mid {w : World} {mean : ExcName → Option Value} {mg mb : Str → Option Value} {a : Addr} {ccd : Value} {base h₀ : Heap} {L : Addr} {m₁ : Str → Option Value} {s : Shared} {Q : Flow → Shared → Prop} {E : Value → Shared → Prop} {b : List Stmt} {sc : Scope}
    {Rest : List (Addr × Obj)} {tb lb pl src : Addr} {bvs ps : List Value} {nb npl nn : Nat} {oS oF : Obj} {cv : Option Value} {x y : Int} {tx ty : Tok}
    (hb : List.drop 4 lawRec.body = b) (hs : lawRec.scope = sc) (B : Below callerA base [] h₀) (X : Frag.In (KF w.params) h₀) (T : Top VW (looseW VW LOOSE) mean mg mb h₀)
    (F : Fr h₀ L s.heap (fun z => if z = Str.ofString "places" then some (.ref pl) else if z = Str.ofString "bounds" then some (.ref lb) else if z = Str.ofString "table" then some (.ref tb) else m₁ z))
    (N : News h₀ L s.heap ((src, listOf #[.int x tx, .int y ty] nn) :: (L + 1 + 1, oF) :: Rest))
    (hT : TableIn w Rest tb) (hlb : (lb, listOf bvs.toArray nb) ∈ Rest) (hlen : bvs.length ≤ 100) (hbs : ∀ v, v ∈ bvs → BoundIn w Rest v) (hpl : (pl, listOf ps.toArray npl) ∈ Rest) (hps : ∀ v, v ∈ ps → IsI v) (hps3 : ps.length ≤ 3)
    (hcS : (L + 1, oS) ∈ Rest) (hdS : oS.data = .cell (some (.ref src))) (hdF : oF.data = .cell cv)
    (hd2 : ∀ p ∈ Rest, p.1 ≠ src) (hd3 : ∀ p ∈ Rest, p.1 ≠ L + 1 + 1) (hdd : @Ne Nat (L + 1 + 1) src) (hx0 : 0 ≤ x) (hy0 : 0 ≤ y) (hy1 : y < 2147483647)
    (hE : PassesOwn (model RW0.row.prog w) (callerA.deeper (envOfC (Str.ofString "law") sc L a ccd)) (envOfC (Str.ofString "law") sc L a ccd) E)
    (ret : ∀ (m' : Str → Option Value) (h' : Heap) (tk' : Nat), Fr h₀ L h' m' → Q (.ret (.bool true)) { s with heap := h', toks := tk' }) :
    wpAny (model RW0.row.prog w) (callerA.deeper (envOfC (Str.ofString "law") sc L a ccd)) (execs b (envOfC (Str.ofString "law") sc L a ccd)) Q E s := by
  k_with_none
  k_with "call ref" => ((k_here; (with_reducible show wpAny _ _ (call (Value.ref 617) [_, _, _, _, _, _, _]) _ _ _); k_dflt (refine' new_Index ?B ?F ?X ?N ?T ?K ?dd ?uu ?_; (case B => k_asm); (case F => k_asm); (case X => k_asm); (case N => k_asm); (case T => k_asm); (case K => first | exact rfl | assumption); (case dd => ktr_room); (case uu => ktr_units); k_whole); intro x' dx'  h' tk' t0' t1' t2' t3' t4' t5' t6' l1' l2' F' N';  (try simp only [AllLt, and_true] at l1');  (try replace l2' := ltN l2'); (try k_sweep); (try dsimp only); (try k_fold)))
  k_with "call ref" => ((k_here; (with_reducible show wpAny _ _ (call (Value.ref 584) [_, _, _, _, _, _, _]) _ _ _); k_dflt (refine' new_Source ?B ?F ?X ?N ?T ?K ?dd ?uu ?_; (case B => k_asm); (case F => k_asm); (case X => k_asm); (case N => k_asm); (case T => k_asm); (case K => first | exact rfl | assumption); (case dd => ktr_room); (case uu => ktr_units); k_whole); intro x' dx' e0' h' tk' t0' t1' t2' t3' t4' t5' t6' t7' t8' l1' l2' l3' F' N'; (have a2' := allLt_trans l1' l2'); (have a3' := allLt_trans a2' l3'); (try simp only [AllLt, and_true] at l1'); (try simp only [AllLt, and_true] at a2'); (try simp only [AllLt, and_true] at a3'); (try replace l2' := ltN l2'); (try replace l3' := ltN l3'); (try k_sweep); (try dsimp only); (try k_fold)))
  k_with "call ref" => ((k_here; (with_reducible show wpAny _ _ (call (Value.ref 677) _) _ _ _); k_dflt (refine' take_at ?B ?F ?X ?N ?T ?K ?S ?hap ?t1 ?t2 ?x ?y ?y2 ?dd ?uu ?_; (case B => k_asm); (case F => k_asm); (case X => k_asm); (case N => k_asm); (case T => k_asm); (case K => first | exact rfl | assumption); (case S => repeat' (first | exact Sel.head | refine' Sel.tail ?_)); (case hap => k_all); (case t1 => omega); (case t2 => omega); (case x => assumption); (case y => assumption); (case y2 => assumption); (case dd => ktr_room); (case uu => ktr_units); k_whole); intro d' td' x' tx' y' ty' n' h' tk' d0' d1' x0' y0' y1' F' N'; (try k_sweep); skip; (all_goals (try dsimp only)); (all_goals (try k_fold))))
  k_with "call ref" => ((k_here; (with_reducible show wpAny _ _ (call (Value.ref 546) _) _ _ _); k_dflt (refine' scan_spec ?B ?F ?X ?N ?T ?K ?hso ?hds ?dd ?uu ?_; (case B => k_asm); (case F => k_asm); (case X => k_asm); (case N => k_asm); (case T => k_asm); (case K => first | exact rfl | assumption); (case hso => k_mem); (case hds => k_mem); (case dd => ktr_room); (case uu => ktr_units); k_whole); intro p' dq' e0' e1' tk' tr' tc' t0' t1' t2' t3' t4' t5' t6' t7' t8' t9' t10' t11' t12' t13' t14' h' tk2' l1' l2' l3' l4' F' N'; (have a2' := allLt_trans l1' l2'); (have a3' := allLt_trans a2' l3'); (have a4' := allLt_trans a3' l4'); (try simp only [AllLt, and_true] at l1'); (try simp only [AllLt, and_true] at a2'); (try simp only [AllLt, and_true] at a3'); (try simp only [AllLt, and_true] at a4'); (try replace l2' := ltN l2'); (try replace l3' := ltN l3'); (try replace l4' := ltN l4'); (try k_sweep); (try dsimp only); (try k_fold)))
  k_with "eval ListComp" => ((k_here; lcg_look; k_dflt (refine LCg.ListComp_U (F₀ := by k_asm) (by rfl) (by decide) (by rfl) (by decide) (by rfl) ?_); k_dflt lcg_toSrc))
  k_with "CompSrc" => ((k_here; (rename (∀ v, v ∈ _ → IsI v) => hps'); k_dflt (refine LCg.CompSrc.ledger (by rfl) (by k_asm) (by k_asm) (by k_mem) (by rw [List.size_toArray, PySem.sizeLine_eq]; omega) ?_); intro g'; (refine' comp_cols (by assumption) (by assumption) (by assumption) (by assumption) (by assumption) (by assumption) hps' (fun i' ti' ys' x' y' tx' ty' nn' I' oI' C' oC' D' m' h' tk' E' RR' hx0' hy0' hy1' hC' hxv' hr1' hRs' hIs' hCs' hDs' hIC' hID' hCD' hRI' hRC' hRD' F' N' => ?_) (by assumption) (fun ys' R2' x' y' tx' ty' nn' hx0' hy0' hy1' hsR' hKs' hKc' hys' hyl' => ?_)); (all_goals (first | (unfold LCg.FinE; (have hbs2' := hsR'); intro D' h' tk' F' N' o1'; (simp only [LCg.Off1, and_true] at o1'); (have hq1' := hsR'.at _ (by assumption)); skip) | skip))))
  k_with "CTurn" => (((rename Fr _ _ _ _ => lF'); (rename News _ _ _ _ => lN'); (refine CTurn.one (by assumption) (by assumption) (by assumption) lF' lN' (by assumption) ⟨_, _, _, _, _, rfl, List.mem_singleton.mpr rfl⟩)))
  k_with "execs cons" => ((k_here; (with_reducible show wpAny _ _ (execs (Stmt.For (Expr.Name (Str.ofString "path") _) (Expr.Call (Expr.Name (Str.ofString "rowid_paths") _) _ _ _) _ _ _ :: _) _) _ _ _); (refine dbg_keep ?_)))
  subst hb
  refine tail_of (b' := ?b) ?e ?h
  case e => conv => { lhs; whnf }
  case h =>
    obtain rfl : _ = sc := (by conv at hs => { lhs; whnf }
                               exact hs)
    k_steps
    all_goals (unfold Blocked; (rename Fr _ _ _ _ => lF); (rename News _ _ _ _ => lN); (rename Sub _ _ => hS); (refine' tail_use (by conv => { lhs; whnf }) (by conv => { lhs; whnf }) ?B ?X ?T lF lN ?a1 ?a2 hdS ?a3 ?a4 ?a5 ?a6 ?a7 ?a8 ?a9 ?b0 ?b1 ?b2 ?b3 (TableIn.mono hT hS.at) (hS.at _ hlb) hlen (fun v hv => (hbs v hv).mono hS.at) (hS.at _ hpl) hps3 ?b4 ?b5 (hS.at _ hcS) ?c1 ?c2 ?c3 ?hE ?rt; (case B => k_asm); (case X => k_asm); (case T => k_asm); (case a1 => assumption); (case a2 => k_mem); (case a3 => k_mem); (case a4 => k_mem); (case a5 => k_mem); (case a6 => k_mem); (case a7 => k_mem); (case a8 => k_mem); (case a9 => k_mem); (case b0 => exact fun p hp => by (repeat (first | exact hp | refine List.mem_cons_of_mem _ ?_))); (case b1 => k_all); (case b2 => k_all); (case b3 => k_ne); (case b4 => assumption); (case b5 => assumption); (case c1 => assumption); (case c2 => assumption); (case c3 => assumption); (case hE => assumption); (case rt => exact ret)))
end
end
section
theorem mid_use {w : World} {mean : ExcName → Option Value} {mg mb : Str → Option Value} {a : Addr} {ccd : Value} {base h₀ : Heap} {L : Addr} {m₁ : Str → Option Value} {s : Shared} {Q : Flow → Shared → Prop} {E : Value → Shared → Prop} {b : List Stmt} {sc : Scope}
    {l K : List (Addr × Obj)} {tb dt lb pl src e0 e1 e2 : Addr} {bvs ps : List Value} {nb npl nn : Nat} {oS oF : Obj} {cv : Option Value} {v0 v1 v2 v3 : Value} {t0 t1 t2 t3 t4 t5 t6 t7 : Tok} {x y : Int} {tx ty : Tok}
    (hb : List.drop 4 lawRec.body = b) (hs : lawRec.scope = sc) (B : Below callerA base [] h₀) (X : Frag.In (KF w.params) h₀) (T : Top VW (looseW VW LOOSE) mean mg mb h₀)
    (F : Fr h₀ L s.heap (fun z => if z = Str.ofString "places" then some (.ref pl) else if z = Str.ofString "bounds" then some (.ref lb) else if z = Str.ofString "table" then some (.ref tb) else m₁ z))
    (N : News h₀ L s.heap l) (hdS : oS.data = .cell (some (.ref src))) (g1 : (src, listOf #[.int x tx, .int y ty] nn) ∈ l) (g2 : (L + 1 + 1, oF) ∈ l) (hdF : oF.data = .cell cv) (g3 : (tb, instObj 659 dt) ∈ l) (g4 : (dt, tableD w v0 v1 v2 v3 e0 e1 e2 t0 t1 t2 t3 t4 t5 t6 t7) ∈ l) (g5 : (lb, listOf bvs.toArray nb) ∈ l) (g6 : (pl, listOf ps.toArray npl) ∈ l) (g7 : (L + 1, oS) ∈ l) (g8 : ∀ p ∈ K, p ∈ l)
    (n1 : ∀ p ∈ (tb, instObj 659 dt) :: (dt, tableD w v0 v1 v2 v3 e0 e1 e2 t0 t1 t2 t3 t4 t5 t6 t7) :: (lb, listOf bvs.toArray nb) :: (pl, listOf ps.toArray npl) :: (L + 1, oS) :: K, p.1 ≠ src) (n2 : ∀ p ∈ (tb, instObj 659 dt) :: (dt, tableD w v0 v1 v2 v3 e0 e1 e2 t0 t1 t2 t3 t4 t5 t6 t7) :: (lb, listOf bvs.toArray nb) :: (pl, listOf ps.toArray npl) :: (L + 1, oS) :: K, p.1 ≠ L + 1 + 1) (n3 : @Ne Nat (L + 1 + 1) src)
    (hlen : bvs.length ≤ 100) (hbs : ∀ v, v ∈ bvs → BoundIn w K v) (hps : ∀ v, v ∈ ps → IsI v) (hps3 : ps.length ≤ 3) (hx0 : 0 ≤ x) (hy0 : 0 ≤ y) (hy1 : y < 2147483647)
    (hE : PassesOwn (model RW0.row.prog w) (callerA.deeper (envOfC (Str.ofString "law") sc L a ccd)) (envOfC (Str.ofString "law") sc L a ccd) E)
    (ret : ∀ (m' : Str → Option Value) (h' : Heap) (tk' : Nat), Fr h₀ L h' m' → Q (.ret (.bool true)) { s with heap := h', toks := tk' }) :
    wpAny (model RW0.row.prog w) (callerA.deeper (envOfC (Str.ofString "law") sc L a ccd)) (execs b (envOfC (Str.ofString "law") sc L a ccd)) Q E s :=
  law_mid (Rest := (tb, instObj 659 dt) :: (dt, tableD w v0 v1 v2 v3 e0 e1 e2 t0 t1 t2 t3 t4 t5 t6 t7) :: (lb, listOf bvs.toArray nb) :: (pl, listOf ps.toArray npl) :: (L + 1, oS) :: K) (src := src) (oF := oF) hb hs B X T F (news_sub N (sub_cons g1 (sub_cons g2 (sub_cons g3 (sub_cons g4 (sub_cons g5 (sub_cons g6 (sub_cons g7 g8)))))))) ⟨dt, v0, v1, v2, v3, e0, e1, e2, t0, t1, t2, t3, t4, t5, t6, t7, List.mem_cons_self, List.mem_cons_of_mem _ List.mem_cons_self⟩ (List.mem_cons_of_mem _ (List.mem_cons_of_mem _ List.mem_cons_self)) hlen (fun v hv => (hbs v hv).mono fun p hp => by simp [hp]) (List.mem_cons_of_mem _ (List.mem_cons_of_mem _ (List.mem_cons_of_mem _ List.mem_cons_self))) hps hps3 (List.mem_cons_of_mem _ (List.mem_cons_of_mem _ (List.mem_cons_of_mem _ (List.mem_cons_of_mem _ List.mem_cons_self)))) hdS hdF n1 n2 n3 hx0 hy0 hy1 hE ret
local macro_rules | `(tactic| k_qdec) => `(tactic| decide +kernel)
section
set_option maxRecDepth 100000 in
set_option maxHeartbeats 8000000 in
theorem law_holds : RW0.Holds := by
  k_with_none
  k_with "call ref" => ((k_here; (with_reducible show wpAny _ _ (call (Value.ref 659) [_, _, _, _]) _ _ _); k_dflt (refine' new_Table ?B ?F ?X ?N ?T ?K ?dd ?uu ?_; (case B => k_asm); (case F => k_asm); (case X => k_asm); (case N => k_asm); (case T => k_asm); (case K => first | exact rfl | assumption); (case dd => ktr_room); (case uu => ktr_units); k_whole); intro x' dx' e0' e1' e2' h' tk' t0' t1' t2' t3' t4' t5' t6' t7' l1' l2' l3' l4' l5' F' N'; (have a2' := allLt_trans l1' l2'); (have a3' := allLt_trans a2' l3'); (have a4' := allLt_trans a3' l4'); (have a5' := allLt_trans a4' l5'); (try simp only [AllLt, and_true] at l1'); (try simp only [AllLt, and_true] at a2'); (try simp only [AllLt, and_true] at a3'); (try simp only [AllLt, and_true] at a4'); (try simp only [AllLt, and_true] at a5'); (try replace l2' := ltN l2'); (try replace l3' := ltN l3'); (try replace l4' := ltN l4'); (try replace l5' := ltN l5'); (try k_sweep); (try dsimp only); (try k_fold)))
  k_with "call ref" => ((k_here; (with_reducible show wpAny _ _ (call (Value.ref 677) _) _ _ _); k_dflt (refine' take_at ?B ?F ?X ?N ?T ?K ?S ?hap ?t1 ?t2 ?x ?y ?y2 ?dd ?uu ?_; (case B => k_asm); (case F => k_asm); (case X => k_asm); (case N => k_asm); (case T => k_asm); (case K => first | exact rfl | assumption); (case S => repeat' (first | exact Sel.head | refine' Sel.tail ?_)); (case hap => k_all); (case t1 => omega); (case t2 => omega); (case x => assumption); (case y => assumption); (case y2 => assumption); (case dd => ktr_room); (case uu => ktr_units); k_whole); intro d' td' x' tx' y' ty' n' h' tk' d0' d1' x0' y0' y1' F' N'; (try k_sweep); skip; (all_goals (try dsimp only)); (all_goals (try k_fold))))
  k_with "call ref" => ((k_here; (with_reducible show wpAny _ _ (call (Value.ref 684) _) _ _ _); k_dflt (refine' one_spec ?B ?F ?X ?N ?T ?K ?S ?hap ?th ?t1 ?t2 ?x ?y ?y2 ?dd ?uu ?_; (case B => k_asm); (case F => k_asm); (case X => k_asm); (case N => k_asm); (case T => k_asm); (case K => first | exact rfl | assumption); (case S => repeat' (first | exact Sel.head | refine' Sel.tail ?_)); (case hap => k_all); (case th => k_mem); (case t1 => (try simp only [List.length_cons, List.length_nil]); omega); (case t2 => (try simp only [List.length_cons, List.length_nil]); omega); (case x => assumption); (case y => assumption); (case y2 => assumption); (case dd => ktr_room); (case uu => ktr_units); k_whole); intro v' x' tx' y' ty' n' h' tk' hv' x0' y0' y1' F' N'; (try k_sweep); skip; (try dsimp only); (try k_fold)))
  k_with "call ref" => ((k_here; (with_reducible show wpAny _ _ (call (Value.ref 670) _) _ _ _); k_dflt (refine' pool_spec ?B ?F ?X ?N ?T ?K ?hl ?hns ?hlen ?dd ?uu ?_; (case B => k_asm); (case F => k_asm); (case X => k_asm); (case N => k_asm); (case T => k_asm); (case K => first | exact rfl | assumption); (case hl => assumption); (case hns => assumption); (case hlen => have hl9 := IntsAre.length (by assumption); omega); (case dd => ktr_room); (case uu => ktr_units); k_whole); intro src' x' y' tx' ty' n' h' tk' hx0' hy0' hy1' l1' F' N'; (try simp only [AllLt, and_true] at l1'); (try k_sweep); (try dsimp only); (try k_fold)))
  k_with "call ref" => ((k_here; (with_reducible show wpAny _ _ (call (Value.ref 689) _) _ _ _); k_dflt (refine' bound2_spec ?B ?F ?X ?N ?T ?K ?S ?hap ?x ?y ?y2 ?dd ?uu ?_; (case B => k_asm); (case F => k_asm); (case X => k_asm); (case N => k_asm); (case T => k_asm); (case K => first | exact rfl | assumption); (case S => repeat' (first | exact Sel.head | refine' Sel.tail ?_)); (case hap => k_all); (case x => assumption); (case y => assumption); (case y2 => assumption); (case dd => ktr_room); (case uu => ktr_units); k_whole); intro b' K' x' y' tx' ty' n' h' tk' hx0' hy0' hy1' F' N' k1' k2' k3'; (try k_sweep); (try dsimp only); (try k_fold)))
  k_with "exec Assign cons ListComp" => ((k_here; lcg_look; k_dflt (refine LCg.Assign_ListComp_U (F₀ := by k_asm) (by rfl) (by with_unfolding_all rfl) (by rfl) (by decide) (by rfl) (by decide) (by rfl) (by rfl) (by rfl) ?_); k_dflt lcg_toSrc))
  k_with "CompSrc" => ((k_here; k_dflt (refine LCg.CompSrc.range (by rfl) (by k_asm) (by k_asm) (by assumption) (by exact small_one (by omega) (by omega) (by omega) (by omega)) (by exact rangeSize_nat _ _) (by rw [PySem.sizeLine_eq]; omega) ?_); intro g'; k_dflt (refine' comp_bounds (by assumption) (by assumption) (by assumption) (by k_all) (by assumption) (by k_mem) (by k_mem) (fun _ => trivial) (fun v' ys' x' y' tx' ty' nn' I' oI' C' oC' D' m' h' tk' E' RR' hx0' hy0' hy1' hC' hxv' hr1' hRs' hIs' hCs' hDs' hIC' hID' hCD' hRI' hRC' hRD' F' N' => ?_) (fun ys' K' x' y' tx' ty' nn' hx0' hy0' hy1' hKs' hys' hyl' hKc' => ?_)); (all_goals (first | (unfold LCg.FinA; (have hys2' := hys'); intro D' h' tk' F' N' o1'; (simp only [List.cons_append, List.nil_append, LCg.Off1, and_true] at N' o1')) | skip))))
  k_with "CTurn" => (((rename Fr _ _ _ _ => lF'); (rename News _ _ _ _ => lN'); (refine CTurn.intro (by assumption) (by assumption) (by assumption) lF' lN' (by assumption) (by assumption) (by assumption))))
  k_with "execs cons" => ((k_here; (with_reducible show wpAny _ _ (execs (Stmt.Assign [Expr.Name (Str.ofString "index") _] _ _ :: _) _) _ _ _); (refine dbg_keep ?_)))
  refine hd (d := ?d) ?e ?w
  case e => conv => { lhs; whnf }
  case w =>
    w_strict k_go0
    k_steps
    all_goals (unfold Blocked; (rename Fr _ _ _ _ => lF); (rename News _ _ _ _ => lN); (rename (∀ v, v ∈ _ → BoundIn _ _ v) => hbs); (rename (_ ∈ (_ :: _ :: _ :: _ :: _ :: _ :: [] : List Value)) => hv); simp only [List.mem_cons, List.not_mem_nil, or_false] at hv)
    all_goals (rcases hv with h9 | h9 | h9 | h9 | h9 | h9)
    all_goals (subst h9; (refine' mid_use (by conv => { lhs; whnf }) (by conv => { lhs; whnf }) ?B ?X ?T lF lN ?hdS ?g1 ?g2 ?hdF ?g3 ?g4 ?g5 ?g6 ?g7 ?g8 ?n1 ?n2 ?n3 ?len hbs ?ps ?ps3 ?c1 ?c2 ?c3 ?hE ?rt; (case B => k_asm); (case X => k_asm); (case T => k_asm); (case hdS => assumption); (case g1 => k_mem); (case g2 => k_mem); (case hdF => assumption); (case g3 => k_mem); (case g4 => k_mem); (case g5 => k_mem); (case g6 => k_mem); (case g7 => k_mem); (case g8 => exact fun p hp => by (repeat (first | exact hp | refine List.mem_cons_of_mem _ ?_))); (case n1 => k_all); (case n2 => k_all); (case n3 => k_ne); (case len => omega); (case ps => repeat' (first | exact ints_nil | refine ints_cons ?_)); (case ps3 => exact Nat.le_of_ble_eq_true rfl); (case c1 => assumption); (case c2 => assumption); (case c3 => assumption); (case hE => passes_own); (case rt => (intro m' h' tk' F'; (try dsimp only); k_steps; all_goals w_report))))
end
end
end Mine
set_option maxRecDepth 100000 in
set_option maxHeartbeats 8000000 in
theorem PySem.Challenge.cw_nt0116_01_holds : PySem.Challenge.rw_nt0116_01.Holds := by
  exact Mine.law_holds
