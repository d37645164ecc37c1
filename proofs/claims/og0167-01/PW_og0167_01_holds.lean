import PyProof.Rows.All
import Wide.All
import OpenK.AllK
import Wide.FinOn
import PySem.Challenge.RW_og0167_01
open PySem PySem.W PyProof.Rows
set_option Elab.async false
set_option maxRecDepth 100000
local macro_rules | `(tactic| omega) => `(tactic| first | ((repeat (rename (_ ≠ _ ∧ _) ∧ _ => zo; clear zo)); (repeat (rename _ ≠ _ ∧ _ => zo; clear zo)); (repeat (rename _ ≠ _ => zo; clear zo)); omega +splitDisjunctions) | omega +splitDisjunctions)
local macro_rules | `(tactic| k_ne) => `(tactic| (refine neN ?_; (try dsimp only); first
  | (with_reducible assumption) | (exact Ne.symm (by with_reducible assumption)) | (exact Nat.ne_of_lt (by with_reducible assumption)) | (exact Nat.ne_of_gt (by with_reducible assumption))
  | ((repeat (rename (_ ≠ _ ∧ _) ∧ _ => zo; have z1 := zo.1; have z2 := zo.2; clear zo)); (repeat (rename _ ≠ _ ∧ _ => zo; have z1 := zo.1; have z2 := zo.2; clear zo)); first | (with_reducible assumption) | exact Ne.symm (by with_reducible assumption))
  | omega))
namespace Mine
/-- an equation that no look closes early -/
def Same (a b : Obj) : Prop := a = b
/-- the i-th statement of the text, the j-th of its i-th class -/
noncomputable def st (i : Nat) : Stmt := (PySem.Challenge.pw_og0167_01.main.body.drop i).headD (.Pass ⟨0, 0, 0, 0⟩)
noncomputable def clsBody : Stmt → List Stmt
  | .ClassDef _ _ _ b _ _ _ _ _ _ _ => b
  | _ => []
noncomputable def cst (i j : Nat) : Stmt := ((clsBody (st i)).drop j).headD (.Pass ⟨0, 0, 0, 0⟩)
noncomputable def fArgs : Stmt → Arguments
  | .FunctionDef _ a _ _ _ _ _ _ _ _ => a
  | _ => ⟨[], [], none, [], [], none, []⟩
noncomputable def fBody : Stmt → List Stmt
  | .FunctionDef _ _ b _ _ _ _ _ _ _ => b
  | _ => []
noncomputable def cstr : Stmt → Str
  | .Assign _ (.Constant (.str x) _ _) _ => x
  | _ => Str.ofString ""
noncomputable def fScope : Stmt → Scope
  | .FunctionDef _ _ _ _ _ _ sc _ _ _ => sc
  | _ => PySem.Challenge.pw_og0167_01.main.scope
noncomputable def os63 : { o : Params → Obj // ∀ P, Same (o P) ((@PySem.Obj.mk (@PySem.Value.type "function") (@Option.none Nat) (@PySem.Data.func (@PySem.FuncData.mk (Str.ofString "__init__") (Str.ofString "Decimal.__init__") (fArgs (cst 4 0)) (FuncBody.stmts (fBody (cst 4 0))) (fScope (cst 4 0)) (3 : Nat) (@List.nil (@Prod PySem.Str Nat)) PySem.Value.none PySem.Value.none PySem.Value.none (@PySem.Value.str (Str.ofString "paperhold.decimals") (236 : Nat)) (@Option.none Nat) (@PySem.Value.ref (62 : Nat)) PySem.Value.none (0 : Nat))) (@List.toArray (@Option PySem.Value) (@List.nil (@Option PySem.Value))))) } := ⟨_, fun P => by
  conv => arg 2; arg 3; arg 1; arg 3; whnf
  conv => arg 2; arg 3; arg 1; arg 4; arg 1; whnf
  conv => arg 2; arg 3; arg 1; arg 5; whnf
  exact Eq.refl _⟩
noncomputable def o63 : Params → Obj := os63.1
noncomputable def os84 : { o : Params → Obj // ∀ P, Same (o P) ((@PySem.Obj.mk (@PySem.Value.type "function") (@Option.none Nat) (@PySem.Data.func (@PySem.FuncData.mk (Str.ofString "times") (Str.ofString "Decimal.times") (fArgs (cst 4 3)) (FuncBody.stmts (fBody (cst 4 3))) (fScope (cst 4 3)) (3 : Nat) (@List.nil (@Prod PySem.Str Nat)) PySem.Value.none PySem.Value.none PySem.Value.none (@PySem.Value.str (Str.ofString "paperhold.decimals") (236 : Nat)) (@Option.none Nat) (@PySem.Value.ref (83 : Nat)) PySem.Value.none (0 : Nat))) (@List.toArray (@Option PySem.Value) (@List.nil (@Option PySem.Value))))) } := ⟨_, fun P => by
  conv => arg 2; arg 3; arg 1; arg 3; whnf
  conv => arg 2; arg 3; arg 1; arg 4; arg 1; whnf
  conv => arg 2; arg 3; arg 1; arg 5; whnf
  exact Eq.refl _⟩
noncomputable def o84 : Params → Obj := os84.1
noncomputable def os126 : { o : Params → Obj // ∀ P, Same (o P) ((@PySem.Obj.mk (@PySem.Value.type "function") (@Option.none Nat) (@PySem.Data.func (@PySem.FuncData.mk (Str.ofString "told") (Str.ofString "Decimal.told") (fArgs (cst 4 9)) (FuncBody.stmts (fBody (cst 4 9))) (fScope (cst 4 9)) (3 : Nat) (@List.nil (@Prod PySem.Str Nat)) PySem.Value.none PySem.Value.none PySem.Value.none (@PySem.Value.str (Str.ofString "paperhold.decimals") (236 : Nat)) (@Option.none Nat) (@PySem.Value.ref (125 : Nat)) PySem.Value.none (0 : Nat))) (@List.toArray (@Option PySem.Value) (@List.nil (@Option PySem.Value))))) } := ⟨_, fun P => by
  conv => arg 2; arg 3; arg 1; arg 3; whnf
  conv => arg 2; arg 3; arg 1; arg 4; arg 1; whnf
  conv => arg 2; arg 3; arg 1; arg 5; whnf
  exact Eq.refl _⟩
noncomputable def o126 : Params → Obj := os126.1
noncomputable def os161 : { o : Params → Obj // ∀ P, Same (o P) ((@PySem.Obj.mk (@PySem.Value.type "function") (@Option.none Nat) (@PySem.Data.func (@PySem.FuncData.mk (Str.ofString "decimal_of") (Str.ofString "decimal_of") (fArgs (st 6)) (FuncBody.stmts (fBody (st 6))) (fScope (st 6)) (3 : Nat) (@List.nil (@Prod PySem.Str Nat)) PySem.Value.none PySem.Value.none PySem.Value.none (@PySem.Value.str (Str.ofString "paperhold.decimals") (236 : Nat)) (@Option.none Nat) (@PySem.Value.ref (160 : Nat)) PySem.Value.none (0 : Nat))) (@List.toArray (@Option PySem.Value) (@List.nil (@Option PySem.Value))))) } := ⟨_, fun P => by
  conv => arg 2; arg 3; arg 1; arg 3; whnf
  conv => arg 2; arg 3; arg 1; arg 4; arg 1; whnf
  conv => arg 2; arg 3; arg 1; arg 5; whnf
  exact Eq.refl _⟩
noncomputable def o161 : Params → Obj := os161.1
noncomputable def os208 : { o : Params → Obj // ∀ P, Same (o P) ((@PySem.Obj.mk (@PySem.Value.type "function") (@Option.none Nat) (@PySem.Data.func (@PySem.FuncData.mk (Str.ofString "ascii_names") (Str.ofString "ascii_names") (fArgs (st 24)) (FuncBody.stmts (fBody (st 24))) (fScope (st 24)) (3 : Nat) (@List.nil (@Prod PySem.Str Nat)) PySem.Value.none PySem.Value.none PySem.Value.none (@PySem.Value.str (Str.ofString "paperhold.encodings") (434 : Nat)) (@Option.none Nat) (@PySem.Value.ref (207 : Nat)) PySem.Value.none (0 : Nat))) (@List.toArray (@Option PySem.Value) (@List.nil (@Option PySem.Value))))) } := ⟨_, fun P => by
  conv => arg 2; arg 3; arg 1; arg 3; whnf
  conv => arg 2; arg 3; arg 1; arg 4; arg 1; whnf
  conv => arg 2; arg 3; arg 1; arg 5; whnf
  exact Eq.refl _⟩
noncomputable def o208 : Params → Obj := os208.1
noncomputable def os251 : { o : Params → Obj // ∀ P, Same (o P) ((@PySem.Obj.mk (@PySem.Value.type "function") (@Option.none Nat) (@PySem.Data.func (@PySem.FuncData.mk (Str.ofString "width_in") (Str.ofString "width_in") (fArgs (st 32)) (FuncBody.stmts (fBody (st 32))) (fScope (st 32)) (3 : Nat) (@List.nil (@Prod PySem.Str Nat)) PySem.Value.none PySem.Value.none PySem.Value.none (@PySem.Value.str (Str.ofString "paperhold.fonts") (615 : Nat)) (@Option.none Nat) (@PySem.Value.ref (250 : Nat)) PySem.Value.none (0 : Nat))) (@List.toArray (@Option PySem.Value) (@List.nil (@Option PySem.Value))))) } := ⟨_, fun P => by
  conv => arg 2; arg 3; arg 1; arg 3; whnf
  conv => arg 2; arg 3; arg 1; arg 4; arg 1; whnf
  conv => arg 2; arg 3; arg 1; arg 5; whnf
  exact Eq.refl _⟩
noncomputable def o251 : Params → Obj := os251.1
noncomputable def os258 : { o : Params → Obj // ∀ P, Same (o P) ((@PySem.Obj.mk (@PySem.Value.type "function") (@Option.none Nat) (@PySem.Data.func (@PySem.FuncData.mk (Str.ofString "standard_width") (Str.ofString "standard_width") (fArgs (st 33)) (FuncBody.stmts (fBody (st 33))) (fScope (st 33)) (3 : Nat) (@List.nil (@Prod PySem.Str Nat)) PySem.Value.none PySem.Value.none PySem.Value.none (@PySem.Value.str (Str.ofString "paperhold.fonts") (615 : Nat)) (@Option.none Nat) (@PySem.Value.ref (257 : Nat)) PySem.Value.none (0 : Nat))) (@List.toArray (@Option PySem.Value) (@List.nil (@Option PySem.Value))))) } := ⟨_, fun P => by
  conv => arg 2; arg 3; arg 1; arg 3; whnf
  conv => arg 2; arg 3; arg 1; arg 4; arg 1; whnf
  conv => arg 2; arg 3; arg 1; arg 5; whnf
  exact Eq.refl _⟩
noncomputable def o258 : Params → Obj := os258.1
noncomputable def os265 : { o : Params → Obj // ∀ P, Same (o P) ((@PySem.Obj.mk (@PySem.Value.type "function") (@Option.none Nat) (@PySem.Data.func (@PySem.FuncData.mk (Str.ofString "cid_of") (Str.ofString "cid_of") (fArgs (st 34)) (FuncBody.stmts (fBody (st 34))) (fScope (st 34)) (3 : Nat) (@List.nil (@Prod PySem.Str Nat)) PySem.Value.none PySem.Value.none PySem.Value.none (@PySem.Value.str (Str.ofString "paperhold.fonts") (615 : Nat)) (@Option.none Nat) (@PySem.Value.ref (264 : Nat)) PySem.Value.none (0 : Nat))) (@List.toArray (@Option PySem.Value) (@List.nil (@Option PySem.Value))))) } := ⟨_, fun P => by
  conv => arg 2; arg 3; arg 1; arg 3; whnf
  conv => arg 2; arg 3; arg 1; arg 4; arg 1; whnf
  conv => arg 2; arg 3; arg 1; arg 5; whnf
  exact Eq.refl _⟩
noncomputable def o265 : Params → Obj := os265.1
noncomputable def os279 : { o : Params → Obj // ∀ P, Same (o P) ((@PySem.Obj.mk (@PySem.Value.type "function") (@Option.none Nat) (@PySem.Data.func (@PySem.FuncData.mk (Str.ofString "__init__") (Str.ofString "Font.__init__") (fArgs (cst 35 0)) (FuncBody.stmts (fBody (cst 35 0))) (fScope (cst 35 0)) (3 : Nat) (@List.nil (@Prod PySem.Str Nat)) PySem.Value.none PySem.Value.none PySem.Value.none (@PySem.Value.str (Str.ofString "paperhold.fonts") (615 : Nat)) (@Option.none Nat) (@PySem.Value.ref (278 : Nat)) PySem.Value.none (0 : Nat))) (@List.toArray (@Option PySem.Value) (@List.nil (@Option PySem.Value))))) } := ⟨_, fun P => by
  conv => arg 2; arg 3; arg 1; arg 3; whnf
  conv => arg 2; arg 3; arg 1; arg 4; arg 1; whnf
  conv => arg 2; arg 3; arg 1; arg 5; whnf
  exact Eq.refl _⟩
noncomputable def o279 : Params → Obj := os279.1
noncomputable def os291 : { o : Params → Obj // ∀ P, Same (o P) ((@PySem.Obj.mk (@PySem.Value.type "function") (@Option.none Nat) (@PySem.Data.func (@PySem.FuncData.mk (Str.ofString "width") (Str.ofString "Font.width") (fArgs (cst 35 2)) (FuncBody.stmts (fBody (cst 35 2))) (fScope (cst 35 2)) (3 : Nat) (@List.nil (@Prod PySem.Str Nat)) PySem.Value.none PySem.Value.none PySem.Value.none (@PySem.Value.str (Str.ofString "paperhold.fonts") (615 : Nat)) (@Option.none Nat) (@PySem.Value.ref (290 : Nat)) PySem.Value.none (0 : Nat))) (@List.toArray (@Option PySem.Value) (@List.nil (@Option PySem.Value))))) } := ⟨_, fun P => by
  conv => arg 2; arg 3; arg 1; arg 3; whnf
  conv => arg 2; arg 3; arg 1; arg 4; arg 1; whnf
  conv => arg 2; arg 3; arg 1; arg 5; whnf
  exact Eq.refl _⟩
noncomputable def o291 : Params → Obj := os291.1
noncomputable def os310 : { o : Params → Obj // ∀ P, Same (o P) ((@PySem.Obj.mk (@PySem.Value.type "function") (@Option.none Nat) (@PySem.Data.func (@PySem.FuncData.mk (Str.ofString "_law_pot") (Str.ofString "_law_pot") (fArgs (st 37)) (FuncBody.stmts (fBody (st 37))) (fScope (st 37)) (3 : Nat) (@List.nil (@Prod PySem.Str Nat)) PySem.Value.none PySem.Value.none PySem.Value.none (@PySem.Value.str (Str.ofString "law_og0167_01") (715 : Nat)) (@Option.none Nat) (@PySem.Value.ref (309 : Nat)) PySem.Value.none (0 : Nat))) (@List.toArray (@Option PySem.Value) (@List.nil (@Option PySem.Value))))) } := ⟨_, fun P => by
  conv => arg 2; arg 3; arg 1; arg 3; whnf
  conv => arg 2; arg 3; arg 1; arg 4; arg 1; whnf
  conv => arg 2; arg 3; arg 1; arg 5; whnf
  exact Eq.refl _⟩
noncomputable def o310 : Params → Obj := os310.1
noncomputable def os317 : { o : Params → Obj // ∀ P, Same (o P) ((@PySem.Obj.mk (@PySem.Value.type "function") (@Option.none Nat) (@PySem.Data.func (@PySem.FuncData.mk (Str.ofString "_law_draw") (Str.ofString "_law_draw") (fArgs (st 38)) (FuncBody.stmts (fBody (st 38))) (fScope (st 38)) (3 : Nat) (@List.nil (@Prod PySem.Str Nat)) PySem.Value.none PySem.Value.none PySem.Value.none (@PySem.Value.str (Str.ofString "law_og0167_01") (715 : Nat)) (@Option.none Nat) (@PySem.Value.ref (316 : Nat)) PySem.Value.none (0 : Nat))) (@List.toArray (@Option PySem.Value) (@List.nil (@Option PySem.Value))))) } := ⟨_, fun P => by
  conv => arg 2; arg 3; arg 1; arg 3; whnf
  conv => arg 2; arg 3; arg 1; arg 4; arg 1; whnf
  conv => arg 2; arg 3; arg 1; arg 5; whnf
  exact Eq.refl _⟩
noncomputable def o317 : Params → Obj := os317.1
noncomputable def os324 : { o : Params → Obj // ∀ P, Same (o P) ((@PySem.Obj.mk (@PySem.Value.type "function") (@Option.none Nat) (@PySem.Data.func (@PySem.FuncData.mk (Str.ofString "_law_names") (Str.ofString "_law_names") (fArgs (st 39)) (FuncBody.stmts (fBody (st 39))) (fScope (st 39)) (3 : Nat) (@List.nil (@Prod PySem.Str Nat)) PySem.Value.none PySem.Value.none PySem.Value.none (@PySem.Value.str (Str.ofString "law_og0167_01") (715 : Nat)) (@Option.none Nat) (@PySem.Value.ref (323 : Nat)) PySem.Value.none (0 : Nat))) (@List.toArray (@Option PySem.Value) (@List.nil (@Option PySem.Value))))) } := ⟨_, fun P => by
  conv => arg 2; arg 3; arg 1; arg 3; whnf
  conv => arg 2; arg 3; arg 1; arg 4; arg 1; whnf
  conv => arg 2; arg 3; arg 1; arg 5; whnf
  exact Eq.refl _⟩
noncomputable def o324 : Params → Obj := os324.1
noncomputable def os329 : { o : Params → Obj // ∀ P, Same (o P) ((@PySem.Obj.mk (@PySem.Value.type "function") (@Option.none Nat) (@PySem.Data.func (@PySem.FuncData.mk (Str.ofString "_law_rows") (Str.ofString "_law_rows") (fArgs (st 40)) (FuncBody.stmts (fBody (st 40))) (fScope (st 40)) (3 : Nat) (@List.nil (@Prod PySem.Str Nat)) PySem.Value.none PySem.Value.none PySem.Value.none (@PySem.Value.str (Str.ofString "law_og0167_01") (715 : Nat)) (@Option.none Nat) (@PySem.Value.ref (328 : Nat)) PySem.Value.none (0 : Nat))) (@List.toArray (@Option PySem.Value) (@List.nil (@Option PySem.Value))))) } := ⟨_, fun P => by
  conv => arg 2; arg 3; arg 1; arg 3; whnf
  conv => arg 2; arg 3; arg 1; arg 4; arg 1; whnf
  conv => arg 2; arg 3; arg 1; arg 5; whnf
  exact Eq.refl _⟩
noncomputable def o329 : Params → Obj := os329.1
noncomputable def os336 : { o : Params → Obj // ∀ P, Same (o P) ((@PySem.Obj.mk (@PySem.Value.type "function") (@Option.none Nat) (@PySem.Data.func (@PySem.FuncData.mk (Str.ofString "_law_in") (Str.ofString "_law_in") (fArgs (st 41)) (FuncBody.stmts (fBody (st 41))) (fScope (st 41)) (3 : Nat) (@List.nil (@Prod PySem.Str Nat)) PySem.Value.none PySem.Value.none PySem.Value.none (@PySem.Value.str (Str.ofString "law_og0167_01") (715 : Nat)) (@Option.none Nat) (@PySem.Value.ref (335 : Nat)) PySem.Value.none (0 : Nat))) (@List.toArray (@Option PySem.Value) (@List.nil (@Option PySem.Value))))) } := ⟨_, fun P => by
  conv => arg 2; arg 3; arg 1; arg 3; whnf
  conv => arg 2; arg 3; arg 1; arg 4; arg 1; whnf
  conv => arg 2; arg 3; arg 1; arg 5; whnf
  exact Eq.refl _⟩
noncomputable def o336 : Params → Obj := os336.1
noncomputable def K0 (P : Params) : Frag :=
  (@Prod.mk Nat Obj (nat_lit 2) ((@PySem.Obj.mk PySem.Value.none (@Option.none Nat) (@PySem.Data.dict (@List.toArray PySem.DictEntry (@List.cons PySem.DictEntry (@PySem.DictEntry.mk (@PySem.PyData.keyHash P (Str.ofString "type.__subclasses__.Exception.0")) (@PySem.Value.str (Str.ofString "type.__subclasses__.Exception.0") (232 : Nat)) (@PySem.Value.int (46 : Int) (0 : Nat))) (@List.cons PySem.DictEntry (@PySem.DictEntry.mk (@PySem.PyData.keyHash P (Str.ofString "type.__subclasses__.Exception.n")) (@PySem.Value.str (Str.ofString "type.__subclasses__.Exception.n") (233 : Nat)) (@PySem.Value.int (1 : Int) (0 : Nat))) (@List.nil PySem.DictEntry)))) (2 : Nat)) (@List.toArray (@Option PySem.Value) (@List.nil (@Option PySem.Value)))))) ::
  (@Prod.mk Nat Obj (nat_lit 3) ((@PySem.Obj.mk (@PySem.Value.type "dict") (@Option.none Nat) (@PySem.Data.dict (@List.toArray PySem.DictEntry (@List.cons PySem.DictEntry (@PySem.DictEntry.mk (@PySem.PyData.keyHash P (Str.ofString "__name__")) (@PySem.Value.str (Str.ofString "__name__") (165 : Nat)) (@PySem.Value.str (Str.ofString "law_og0167_01") (715 : Nat))) (@List.cons PySem.DictEntry (@PySem.DictEntry.mk (@PySem.PyData.keyHash P (Str.ofString "__doc__")) (@PySem.Value.str (Str.ofString "__doc__") (166 : Nat)) PySem.Value.none) (@List.cons PySem.DictEntry (@PySem.DictEntry.mk (@PySem.PyData.keyHash P (Str.ofString "__package__")) (@PySem.Value.str (Str.ofString "__package__") (167 : Nat)) PySem.Value.none) (@List.cons PySem.DictEntry (@PySem.DictEntry.mk (@PySem.PyData.keyHash P (Str.ofString "__loader__")) (@PySem.Value.str (Str.ofString "__loader__") (168 : Nat)) (@PySem.Value.builtin "__main__.__loader__#opaque")) (@List.cons PySem.DictEntry (@PySem.DictEntry.mk (@PySem.PyData.keyHash P (Str.ofString "__spec__")) (@PySem.Value.str (Str.ofString "__spec__") (169 : Nat)) PySem.Value.none) (@List.cons PySem.DictEntry (@PySem.DictEntry.mk (@PySem.PyData.keyHash P (Str.ofString "__annotations__")) (@PySem.Value.str (Str.ofString "__annotations__") (170 : Nat)) (@PySem.Value.ref (6 : Nat))) (@List.cons PySem.DictEntry (@PySem.DictEntry.mk (@PySem.PyData.keyHash P (Str.ofString "__builtins__")) (@PySem.Value.str (Str.ofString "__builtins__") (171 : Nat)) (@PySem.Value.ref (4 : Nat))) (@List.cons PySem.DictEntry (@PySem.DictEntry.mk (@PySem.PyData.keyHash P (Str.ofString "__file__")) (@PySem.Value.str (Str.ofString "__file__") (173 : Nat)) (@PySem.Value.str (Str.ofString "/claim/cut.py") (172 : Nat))) (@List.cons PySem.DictEntry (@PySem.DictEntry.mk (@PySem.PyData.keyHash P (Str.ofString "__cached__")) (@PySem.Value.str (Str.ofString "__cached__") (174 : Nat)) PySem.Value.none) (@List.cons PySem.DictEntry (@PySem.DictEntry.mk (@PySem.PyData.keyHash P (Str.ofString "_wall")) (@PySem.Value.str (Str.ofString "_wall") (193 : Nat)) (@PySem.Value.ref (21 : Nat))) (@List.cons PySem.DictEntry (@PySem.DictEntry.mk (@PySem.PyData.keyHash P (Str.ofString "PaperError")) (@PySem.Value.str (Str.ofString "PaperError") (235 : Nat)) (@PySem.Value.ref (46 : Nat))) (@List.cons PySem.DictEntry (@PySem.DictEntry.mk (@PySem.PyData.keyHash P (Str.ofString "Decimal")) (@PySem.Value.str (Str.ofString "Decimal") (355 : Nat)) (@PySem.Value.ref (143 : Nat))) (@List.cons PySem.DictEntry (@PySem.DictEntry.mk (@PySem.PyData.keyHash P (Str.ofString "sign_text")) (@PySem.Value.str (Str.ofString "sign_text") (362 : Nat)) (@PySem.Value.ref (154 : Nat))) (@List.cons PySem.DictEntry (@PySem.DictEntry.mk (@PySem.PyData.keyHash P (Str.ofString "decimal_of")) (@PySem.Value.str (Str.ofString "decimal_of") (369 : Nat)) (@PySem.Value.ref (161 : Nat))) (@List.cons PySem.DictEntry (@PySem.DictEntry.mk (@PySem.PyData.keyHash P (Str.ofString "at_one_scale")) (@PySem.Value.str (Str.ofString "at_one_scale") (380 : Nat)) (@PySem.Value.ref (168 : Nat))) (@List.cons PySem.DictEntry (@PySem.DictEntry.mk (@PySem.PyData.keyHash P (Str.ofString "MOST_LENGTH")) (@PySem.Value.str (Str.ofString "MOST_LENGTH") (384 : Nat)) (@PySem.Value.int (4 : Int) (383 : Nat))) (@List.cons PySem.DictEntry (@PySem.DictEntry.mk (@PySem.PyData.keyHash P (Str.ofString "HEX_SIGNS")) (@PySem.Value.str (Str.ofString "HEX_SIGNS") (386 : Nat)) (@PySem.Value.str (cstr (st 10)) (385 : Nat))) (@List.cons PySem.DictEntry (@PySem.DictEntry.mk (@PySem.PyData.keyHash P (Str.ofString "code_of")) (@PySem.Value.str (Str.ofString "code_of") (395 : Nat)) (@PySem.Value.ref (175 : Nat))) (@List.cons PySem.DictEntry (@PySem.DictEntry.mk (@PySem.PyData.keyHash P (Str.ofString "code_octets")) (@PySem.Value.str (Str.ofString "code_octets") (401 : Nat)) (@PySem.Value.ref (180 : Nat))) (@List.cons PySem.DictEntry (@PySem.DictEntry.mk (@PySem.PyData.keyHash P (Str.ofString "fitting")) (@PySem.Value.str (Str.ofString "fitting") (415 : Nat)) (@PySem.Value.ref (187 : Nat))) (@List.cons PySem.DictEntry (@PySem.DictEntry.mk (@PySem.PyData.keyHash P (Str.ofString "next_length")) (@PySem.Value.str (Str.ofString "next_length") (421 : Nat)) (@PySem.Value.ref (192 : Nat))) (@List.cons PySem.DictEntry (@PySem.DictEntry.mk (@PySem.PyData.keyHash P (Str.ofString "split_codes")) (@PySem.Value.str (Str.ofString "split_codes") (433 : Nat)) (@PySem.Value.ref (199 : Nat))) (@List.cons PySem.DictEntry (@PySem.DictEntry.mk (@PySem.PyData.keyHash P (Str.ofString "LOW_NAMES")) (@PySem.Value.str (Str.ofString "LOW_NAMES") (437 : Nat)) (@PySem.Value.str (cstr (st 17)) (436 : Nat))) (@List.cons PySem.DictEntry (@PySem.DictEntry.mk (@PySem.PyData.keyHash P (Str.ofString "MIDDLE_NAMES")) (@PySem.Value.str (Str.ofString "MIDDLE_NAMES") (439 : Nat)) (@PySem.Value.str (cstr (st 18)) (438 : Nat))) (@List.cons PySem.DictEntry (@PySem.DictEntry.mk (@PySem.PyData.keyHash P (Str.ofString "HIGH_NAMES")) (@PySem.Value.str (Str.ofString "HIGH_NAMES") (441 : Nat)) (@PySem.Value.str (cstr (st 19)) (440 : Nat))) (@List.cons PySem.DictEntry (@PySem.DictEntry.mk (@PySem.PyData.keyHash P (Str.ofString "LATIN_NAMES")) (@PySem.Value.str (Str.ofString "LATIN_NAMES") (443 : Nat)) (@PySem.Value.str (cstr (st 20)) (442 : Nat))) (@List.cons PySem.DictEntry (@PySem.DictEntry.mk (@PySem.PyData.keyHash P (Str.ofString "OTHER_CODES")) (@PySem.Value.str (Str.ofString "OTHER_CODES") (561 : Nat)) (@PySem.Value.ref (200 : Nat))) (@List.cons PySem.DictEntry (@PySem.DictEntry.mk (@PySem.PyData.keyHash P (Str.ofString "SURROGATES")) (@PySem.Value.str (Str.ofString "SURROGATES") (564 : Nat)) (@PySem.Value.ref (203 : Nat))) (@List.cons PySem.DictEntry (@PySem.DictEntry.mk (@PySem.PyData.keyHash P (Str.ofString "MOST_CODE")) (@PySem.Value.str (Str.ofString "MOST_CODE") (566 : Nat)) (@PySem.Value.int (1114111 : Int) (565 : Nat))) (@List.cons PySem.DictEntry (@PySem.DictEntry.mk (@PySem.PyData.keyHash P (Str.ofString "ascii_names")) (@PySem.Value.str (Str.ofString "ascii_names") (572 : Nat)) (@PySem.Value.ref (208 : Nat))) (@List.cons PySem.DictEntry (@PySem.DictEntry.mk (@PySem.PyData.keyHash P (Str.ofString "latin_names")) (@PySem.Value.str (Str.ofString "latin_names") (578 : Nat)) (@PySem.Value.ref (213 : Nat))) (@List.cons PySem.DictEntry (@PySem.DictEntry.mk (@PySem.PyData.keyHash P (Str.ofString "hex_number")) (@PySem.Value.str (Str.ofString "hex_number") (587 : Nat)) (@PySem.Value.ref (220 : Nat))) (@List.cons PySem.DictEntry (@PySem.DictEntry.mk (@PySem.PyData.keyHash P (Str.ofString "is_sign_code")) (@PySem.Value.str (Str.ofString "is_sign_code") (594 : Nat)) (@PySem.Value.ref (227 : Nat))) (@List.cons PySem.DictEntry (@PySem.DictEntry.mk (@PySem.PyData.keyHash P (Str.ofString "known_code")) (@PySem.Value.str (Str.ofString "known_code") (602 : Nat)) (@PySem.Value.ref (234 : Nat))) (@List.cons PySem.DictEntry (@PySem.DictEntry.mk (@PySem.PyData.keyHash P (Str.ofString "part_text")) (@PySem.Value.str (Str.ofString "part_text") (608 : Nat)) (@PySem.Value.ref (239 : Nat))) (@List.cons PySem.DictEntry (@PySem.DictEntry.mk (@PySem.PyData.keyHash P (Str.ofString "glyph_text")) (@PySem.Value.str (Str.ofString "glyph_text") (614 : Nat)) (@PySem.Value.ref (244 : Nat))) (@List.cons PySem.DictEntry (@PySem.DictEntry.mk (@PySem.PyData.keyHash P (Str.ofString "width_in")) (@PySem.Value.str (Str.ofString "width_in") (628 : Nat)) (@PySem.Value.ref (251 : Nat))) (@List.cons PySem.DictEntry (@PySem.DictEntry.mk (@PySem.PyData.keyHash P (Str.ofString "standard_width")) (@PySem.Value.str (Str.ofString "standard_width") (637 : Nat)) (@PySem.Value.ref (258 : Nat))) (@List.cons PySem.DictEntry (@PySem.DictEntry.mk (@PySem.PyData.keyHash P (Str.ofString "cid_of")) (@PySem.Value.str (Str.ofString "cid_of") (650 : Nat)) (@PySem.Value.ref (265 : Nat))) (@List.cons PySem.DictEntry (@PySem.DictEntry.mk (@PySem.PyData.keyHash P (Str.ofString "Font")) (@PySem.Value.str (Str.ofString "Font") (714 : Nat)) (@PySem.Value.ref (301 : Nat))) (@List.cons PySem.DictEntry (@PySem.DictEntry.mk (@PySem.PyData.keyHash P (Str.ofString "_law_pot")) (@PySem.Value.str (Str.ofString "_law_pot") (722 : Nat)) (@PySem.Value.ref (310 : Nat))) (@List.cons PySem.DictEntry (@PySem.DictEntry.mk (@PySem.PyData.keyHash P (Str.ofString "_law_draw")) (@PySem.Value.str (Str.ofString "_law_draw") (733 : Nat)) (@PySem.Value.ref (317 : Nat))) (@List.cons PySem.DictEntry (@PySem.DictEntry.mk (@PySem.PyData.keyHash P (Str.ofString "_law_names")) (@PySem.Value.str (Str.ofString "_law_names") (739 : Nat)) (@PySem.Value.ref (324 : Nat))) (@List.cons PySem.DictEntry (@PySem.DictEntry.mk (@PySem.PyData.keyHash P (Str.ofString "_law_rows")) (@PySem.Value.str (Str.ofString "_law_rows") (745 : Nat)) (@PySem.Value.ref (329 : Nat))) (@List.cons PySem.DictEntry (@PySem.DictEntry.mk (@PySem.PyData.keyHash P (Str.ofString "_law_in")) (@PySem.Value.str (Str.ofString "_law_in") (759 : Nat)) (@PySem.Value.ref (336 : Nat))) (@List.cons PySem.DictEntry (@PySem.DictEntry.mk (@PySem.PyData.keyHash P (Str.ofString "law")) (@PySem.Value.str (Str.ofString "law") (765 : Nat)) (@PySem.Value.ref (341 : Nat))) (@List.nil PySem.DictEntry)))))))))))))))))))))))))))))))))))))))))))))))) (46 : Nat)) (@List.toArray (@Option PySem.Value) (@List.nil (@Option PySem.Value)))))) ::
  (@Prod.mk Nat Obj (nat_lit 62) ((@PySem.Obj.mk (@PySem.Value.type "code") (@Option.none Nat) (@PySem.Data.fields (@List.toArray PySem.Value (@List.cons PySem.Value (@PySem.Value.str (Str.ofString "__init__") (250 : Nat)) (@List.cons PySem.Value (@PySem.Value.str (Str.ofString "Decimal.__init__") (251 : Nat)) (@List.cons PySem.Value (@PySem.Value.str (Str.ofString "/claim/cut.py") (252 : Nat)) (@List.cons PySem.Value (@PySem.Value.int (17 : Int) (0 : Nat)) (@List.cons PySem.Value (@PySem.Value.int (3 : Int) (0 : Nat)) (@List.cons PySem.Value (@PySem.Value.int (0 : Int) (0 : Nat)) (@List.cons PySem.Value (@PySem.Value.int (0 : Int) (0 : Nat)) (@List.cons PySem.Value (@PySem.Value.int (3 : Int) (0 : Nat)) (@List.cons PySem.Value (@PySem.Value.ref (57 : Nat)) (@List.cons PySem.Value (@PySem.Value.bool Bool.true) (@List.cons PySem.Value (@PySem.Value.int (181 : Int) (0 : Nat)) (@List.cons PySem.Value (@PySem.Value.ref (58 : Nat)) (@List.cons PySem.Value PySem.Value.none (@List.cons PySem.Value (@PySem.Value.ref (59 : Nat)) (@List.cons PySem.Value (@PySem.Value.ref (60 : Nat)) (@List.cons PySem.Value (@PySem.Value.ref (61 : Nat)) (@List.cons PySem.Value (@PySem.Value.int (256 : Int) (0 : Nat)) (@List.cons PySem.Value (@PySem.Value.int (17 : Int) (0 : Nat)) (@List.cons PySem.Value (@PySem.Value.str (Str.ofString "/claim/cut.py") (257 : Nat)) (@List.nil PySem.Value)))))))))))))))))))))) (@List.toArray (@Option PySem.Value) (@List.nil (@Option PySem.Value)))))) ::
  (@Prod.mk Nat Obj (nat_lit 63) (o63 P)) ::
  (@Prod.mk Nat Obj (nat_lit 83) ((@PySem.Obj.mk (@PySem.Value.type "code") (@Option.none Nat) (@PySem.Data.fields (@List.toArray PySem.Value (@List.cons PySem.Value (@PySem.Value.str (Str.ofString "times") (278 : Nat)) (@List.cons PySem.Value (@PySem.Value.str (Str.ofString "Decimal.times") (279 : Nat)) (@List.cons PySem.Value (@PySem.Value.str (Str.ofString "/claim/cut.py") (280 : Nat)) (@List.cons PySem.Value (@PySem.Value.int (31 : Int) (0 : Nat)) (@List.cons PySem.Value (@PySem.Value.int (2 : Int) (0 : Nat)) (@List.cons PySem.Value (@PySem.Value.int (0 : Int) (0 : Nat)) (@List.cons PySem.Value (@PySem.Value.int (0 : Int) (0 : Nat)) (@List.cons PySem.Value (@PySem.Value.int (3 : Int) (0 : Nat)) (@List.cons PySem.Value (@PySem.Value.ref (78 : Nat)) (@List.cons PySem.Value (@PySem.Value.bool Bool.true) (@List.cons PySem.Value (@PySem.Value.int (181 : Int) (0 : Nat)) (@List.cons PySem.Value (@PySem.Value.ref (79 : Nat)) (@List.cons PySem.Value PySem.Value.none (@List.cons PySem.Value (@PySem.Value.ref (80 : Nat)) (@List.cons PySem.Value (@PySem.Value.ref (81 : Nat)) (@List.cons PySem.Value (@PySem.Value.ref (82 : Nat)) (@List.cons PySem.Value (@PySem.Value.int (284 : Int) (0 : Nat)) (@List.cons PySem.Value (@PySem.Value.int (31 : Int) (0 : Nat)) (@List.cons PySem.Value (@PySem.Value.str (Str.ofString "/claim/cut.py") (285 : Nat)) (@List.nil PySem.Value)))))))))))))))))))))) (@List.toArray (@Option PySem.Value) (@List.nil (@Option PySem.Value)))))) ::
  (@Prod.mk Nat Obj (nat_lit 84) (o84 P)) ::
  (@Prod.mk Nat Obj (nat_lit 125) ((@PySem.Obj.mk (@PySem.Value.type "code") (@Option.none Nat) (@PySem.Data.fields (@List.toArray PySem.Value (@List.cons PySem.Value (@PySem.Value.str (Str.ofString "told") (324 : Nat)) (@List.cons PySem.Value (@PySem.Value.str (Str.ofString "Decimal.told") (325 : Nat)) (@List.cons PySem.Value (@PySem.Value.str (Str.ofString "/claim/cut.py") (326 : Nat)) (@List.cons PySem.Value (@PySem.Value.int (50 : Int) (0 : Nat)) (@List.cons PySem.Value (@PySem.Value.int (1 : Int) (0 : Nat)) (@List.cons PySem.Value (@PySem.Value.int (0 : Int) (0 : Nat)) (@List.cons PySem.Value (@PySem.Value.int (0 : Int) (0 : Nat)) (@List.cons PySem.Value (@PySem.Value.int (3 : Int) (0 : Nat)) (@List.cons PySem.Value (@PySem.Value.ref (120 : Nat)) (@List.cons PySem.Value (@PySem.Value.bool Bool.true) (@List.cons PySem.Value (@PySem.Value.int (181 : Int) (0 : Nat)) (@List.cons PySem.Value (@PySem.Value.ref (121 : Nat)) (@List.cons PySem.Value PySem.Value.none (@List.cons PySem.Value (@PySem.Value.ref (122 : Nat)) (@List.cons PySem.Value (@PySem.Value.ref (123 : Nat)) (@List.cons PySem.Value (@PySem.Value.ref (124 : Nat)) (@List.cons PySem.Value (@PySem.Value.int (328 : Int) (0 : Nat)) (@List.cons PySem.Value (@PySem.Value.int (50 : Int) (0 : Nat)) (@List.cons PySem.Value (@PySem.Value.str (Str.ofString "/claim/cut.py") (329 : Nat)) (@List.nil PySem.Value)))))))))))))))))))))) (@List.toArray (@Option PySem.Value) (@List.nil (@Option PySem.Value)))))) ::
  (@Prod.mk Nat Obj (nat_lit 126) (o126 P)) ::
  (@Prod.mk Nat Obj (nat_lit 142) ((@PySem.Obj.mk (@PySem.Value.type "dict") (@Option.none Nat) (@PySem.Data.dict (@List.toArray PySem.DictEntry (@List.cons PySem.DictEntry (@PySem.DictEntry.mk (@PySem.PyData.keyHash P (Str.ofString "__module__")) (@PySem.Value.str (Str.ofString "__module__") (245 : Nat)) (@PySem.Value.str (Str.ofString "paperhold.decimals") (236 : Nat))) (@List.cons PySem.DictEntry (@PySem.DictEntry.mk (@PySem.PyData.keyHash P (Str.ofString "__firstlineno__")) (@PySem.Value.str (Str.ofString "__firstlineno__") (249 : Nat)) (@PySem.Value.int (15 : Int) (248 : Nat))) (@List.cons PySem.DictEntry (@PySem.DictEntry.mk (@PySem.PyData.keyHash P (Str.ofString "__init__")) (@PySem.Value.str (Str.ofString "__init__") (258 : Nat)) (@PySem.Value.ref (63 : Nat))) (@List.cons PySem.DictEntry (@PySem.DictEntry.mk (@PySem.PyData.keyHash P (Str.ofString "plus")) (@PySem.Value.str (Str.ofString "plus") (269 : Nat)) (@PySem.Value.ref (70 : Nat))) (@List.cons PySem.DictEntry (@PySem.DictEntry.mk (@PySem.PyData.keyHash P (Str.ofString "minus")) (@PySem.Value.str (Str.ofString "minus") (277 : Nat)) (@PySem.Value.ref (77 : Nat))) (@List.cons PySem.DictEntry (@PySem.DictEntry.mk (@PySem.PyData.keyHash P (Str.ofString "times")) (@PySem.Value.str (Str.ofString "times") (286 : Nat)) (@PySem.Value.ref (84 : Nat))) (@List.cons PySem.DictEntry (@PySem.DictEntry.mk (@PySem.PyData.keyHash P (Str.ofString "negated")) (@PySem.Value.str (Str.ofString "negated") (293 : Nat)) (@PySem.Value.ref (91 : Nat))) (@List.cons PySem.DictEntry (@PySem.DictEntry.mk (@PySem.PyData.keyHash P (Str.ofString "compared")) (@PySem.Value.str (Str.ofString "compared") (301 : Nat)) (@PySem.Value.ref (98 : Nat))) (@List.cons PySem.DictEntry (@PySem.DictEntry.mk (@PySem.PyData.keyHash P (Str.ofString "is_whole")) (@PySem.Value.str (Str.ofString "is_whole") (308 : Nat)) (@PySem.Value.ref (105 : Nat))) (@List.cons PySem.DictEntry (@PySem.DictEntry.mk (@PySem.PyData.keyHash P (Str.ofString "floor")) (@PySem.Value.str (Str.ofString "floor") (315 : Nat)) (@PySem.Value.ref (112 : Nat))) (@List.cons PySem.DictEntry (@PySem.DictEntry.mk (@PySem.PyData.keyHash P (Str.ofString "rounded")) (@PySem.Value.str (Str.ofString "rounded") (323 : Nat)) (@PySem.Value.ref (119 : Nat))) (@List.cons PySem.DictEntry (@PySem.DictEntry.mk (@PySem.PyData.keyHash P (Str.ofString "told")) (@PySem.Value.str (Str.ofString "told") (330 : Nat)) (@PySem.Value.ref (126 : Nat))) (@List.cons PySem.DictEntry (@PySem.DictEntry.mk (@PySem.PyData.keyHash P (Str.ofString "text")) (@PySem.Value.str (Str.ofString "text") (338 : Nat)) (@PySem.Value.ref (133 : Nat))) (@List.cons PySem.DictEntry (@PySem.DictEntry.mk (@PySem.PyData.keyHash P (Str.ofString "least_text")) (@PySem.Value.str (Str.ofString "least_text") (345 : Nat)) (@PySem.Value.ref (140 : Nat))) (@List.cons PySem.DictEntry (@PySem.DictEntry.mk (@PySem.PyData.keyHash P (Str.ofString "__static_attributes__")) (@PySem.Value.str (Str.ofString "__static_attributes__") (348 : Nat)) (@PySem.Value.ref (141 : Nat))) (@List.cons PySem.DictEntry (@PySem.DictEntry.mk (@PySem.PyData.keyHash P (Str.ofString "__dict__")) (@PySem.Value.str (Str.ofString "__dict__") (350 : Nat)) (@PySem.Value.ref (144 : Nat))) (@List.cons PySem.DictEntry (@PySem.DictEntry.mk (@PySem.PyData.keyHash P (Str.ofString "__weakref__")) (@PySem.Value.str (Str.ofString "__weakref__") (352 : Nat)) (@PySem.Value.ref (145 : Nat))) (@List.cons PySem.DictEntry (@PySem.DictEntry.mk (@PySem.PyData.keyHash P (Str.ofString "__doc__")) (@PySem.Value.str (Str.ofString "__doc__") (353 : Nat)) PySem.Value.none) (@List.nil PySem.DictEntry)))))))))))))))))))) (4 : Nat)) (@List.toArray (@Option PySem.Value) (@List.nil (@Option PySem.Value)))))) ::
  (@Prod.mk Nat Obj (nat_lit 143) ((@PySem.Obj.mk (@PySem.Value.type "type") (@Option.none Nat) (@PySem.Data.cls (@PySem.ClassData.mk (Str.ofString "Decimal") (@List.cons PySem.Value (@PySem.Value.type "object") (@List.nil PySem.Value)) (@List.cons PySem.Value (@PySem.Value.ref (143 : Nat)) (@List.cons PySem.Value (@PySem.Value.type "object") (@List.nil PySem.Value))) (142 : Nat) (Str.ofString "Decimal") Bool.true (@List.nil PySem.Str) (@List.nil PySem.Value) Bool.false (@Option.none Bool) Bool.false)) (@List.toArray (@Option PySem.Value) (@List.cons (@Option PySem.Value) (@Option.none PySem.Value) (@List.cons (@Option PySem.Value) (@Option.none PySem.Value) (@List.cons (@Option PySem.Value) (@Option.some PySem.Value (@PySem.Value.str (Str.ofString "Decimal") (238 : Nat))) (@List.cons (@Option PySem.Value) (@Option.some PySem.Value (@PySem.Value.str (Str.ofString "Decimal") (246 : Nat))) (@List.cons (@Option PySem.Value) (@Option.some PySem.Value (@PySem.Value.builtin "object.__new__")) (@List.cons (@Option PySem.Value) (@Option.some PySem.Value (@PySem.Value.bool Bool.true)) (@List.nil (@Option PySem.Value)))))))))))) ::
  (@Prod.mk Nat Obj (nat_lit 144) ((@PySem.Obj.mk (@PySem.Value.type "getset_descriptor") (@Option.none Nat) (@PySem.Data.fields (@List.toArray PySem.Value (@List.cons PySem.Value (@PySem.Value.str (Str.ofString "__dict__") (349 : Nat)) (@List.cons PySem.Value (@PySem.Value.ref (143 : Nat)) (@List.cons PySem.Value (@PySem.Value.builtin "function.__dict__") (@List.cons PySem.Value (@PySem.Value.builtin "function.__dict__#set") (@List.nil PySem.Value))))))) (@List.toArray (@Option PySem.Value) (@List.nil (@Option PySem.Value)))))) ::
  (@Prod.mk Nat Obj (nat_lit 145) ((@PySem.Obj.mk (@PySem.Value.type "getset_descriptor") (@Option.none Nat) (@PySem.Data.fields (@List.toArray PySem.Value (@List.cons PySem.Value (@PySem.Value.str (Str.ofString "__weakref__") (351 : Nat)) (@List.cons PySem.Value (@PySem.Value.ref (143 : Nat)) (@List.cons PySem.Value (@PySem.Value.builtin "ExceptionGroup.__weakref__") (@List.cons PySem.Value PySem.Value.none (@List.nil PySem.Value))))))) (@List.toArray (@Option PySem.Value) (@List.nil (@Option PySem.Value)))))) ::
  (@Prod.mk Nat Obj (nat_lit 160) ((@PySem.Obj.mk (@PySem.Value.type "code") (@Option.none Nat) (@PySem.Data.fields (@List.toArray PySem.Value (@List.cons PySem.Value (@PySem.Value.str (Str.ofString "decimal_of") (363 : Nat)) (@List.cons PySem.Value (@PySem.Value.str (Str.ofString "decimal_of") (364 : Nat)) (@List.cons PySem.Value (@PySem.Value.str (Str.ofString "/claim/cut.py") (365 : Nat)) (@List.cons PySem.Value (@PySem.Value.int (64 : Int) (0 : Nat)) (@List.cons PySem.Value (@PySem.Value.int (1 : Int) (0 : Nat)) (@List.cons PySem.Value (@PySem.Value.int (0 : Int) (0 : Nat)) (@List.cons PySem.Value (@PySem.Value.int (0 : Int) (0 : Nat)) (@List.cons PySem.Value (@PySem.Value.int (3 : Int) (0 : Nat)) (@List.cons PySem.Value (@PySem.Value.ref (155 : Nat)) (@List.cons PySem.Value (@PySem.Value.bool Bool.true) (@List.cons PySem.Value (@PySem.Value.int (181 : Int) (0 : Nat)) (@List.cons PySem.Value (@PySem.Value.ref (156 : Nat)) (@List.cons PySem.Value PySem.Value.none (@List.cons PySem.Value (@PySem.Value.ref (157 : Nat)) (@List.cons PySem.Value (@PySem.Value.ref (158 : Nat)) (@List.cons PySem.Value (@PySem.Value.ref (159 : Nat)) (@List.cons PySem.Value (@PySem.Value.int (367 : Int) (0 : Nat)) (@List.cons PySem.Value (@PySem.Value.int (64 : Int) (0 : Nat)) (@List.cons PySem.Value (@PySem.Value.str (Str.ofString "/claim/cut.py") (368 : Nat)) (@List.nil PySem.Value)))))))))))))))))))))) (@List.toArray (@Option PySem.Value) (@List.nil (@Option PySem.Value)))))) ::
  (@Prod.mk Nat Obj (nat_lit 161) (o161 P)) ::
  (@Prod.mk Nat Obj (nat_lit 207) ((@PySem.Obj.mk (@PySem.Value.type "code") (@Option.none Nat) (@PySem.Data.fields (@List.toArray PySem.Value (@List.cons PySem.Value (@PySem.Value.str (Str.ofString "ascii_names") (567 : Nat)) (@List.cons PySem.Value (@PySem.Value.str (Str.ofString "ascii_names") (568 : Nat)) (@List.cons PySem.Value (@PySem.Value.str (Str.ofString "/claim/cut.py") (569 : Nat)) (@List.cons PySem.Value (@PySem.Value.int (119 : Int) (0 : Nat)) (@List.cons PySem.Value (@PySem.Value.int (0 : Int) (0 : Nat)) (@List.cons PySem.Value (@PySem.Value.int (0 : Int) (0 : Nat)) (@List.cons PySem.Value (@PySem.Value.int (0 : Int) (0 : Nat)) (@List.cons PySem.Value (@PySem.Value.int (3 : Int) (0 : Nat)) (@List.cons PySem.Value (@PySem.Value.ref (204 : Nat)) (@List.cons PySem.Value (@PySem.Value.bool Bool.true) (@List.cons PySem.Value (@PySem.Value.int (181 : Int) (0 : Nat)) (@List.cons PySem.Value (@PySem.Value.ref (205 : Nat)) (@List.cons PySem.Value PySem.Value.none (@List.cons PySem.Value PySem.Value.none (@List.cons PySem.Value PySem.Value.none (@List.cons PySem.Value (@PySem.Value.ref (206 : Nat)) (@List.cons PySem.Value (@PySem.Value.int (570 : Int) (0 : Nat)) (@List.cons PySem.Value (@PySem.Value.int (119 : Int) (0 : Nat)) (@List.cons PySem.Value (@PySem.Value.str (Str.ofString "/claim/cut.py") (571 : Nat)) (@List.nil PySem.Value)))))))))))))))))))))) (@List.toArray (@Option PySem.Value) (@List.nil (@Option PySem.Value)))))) ::
  (@Prod.mk Nat Obj (nat_lit 208) (o208 P)) ::
  (@Prod.mk Nat Obj (nat_lit 250) ((@PySem.Obj.mk (@PySem.Value.type "code") (@Option.none Nat) (@PySem.Data.fields (@List.toArray PySem.Value (@List.cons PySem.Value (@PySem.Value.str (Str.ofString "width_in") (617 : Nat)) (@List.cons PySem.Value (@PySem.Value.str (Str.ofString "width_in") (618 : Nat)) (@List.cons PySem.Value (@PySem.Value.str (Str.ofString "/claim/cut.py") (619 : Nat)) (@List.cons PySem.Value (@PySem.Value.int (163 : Int) (0 : Nat)) (@List.cons PySem.Value (@PySem.Value.int (3 : Int) (0 : Nat)) (@List.cons PySem.Value (@PySem.Value.int (0 : Int) (0 : Nat)) (@List.cons PySem.Value (@PySem.Value.int (0 : Int) (0 : Nat)) (@List.cons PySem.Value (@PySem.Value.int (3 : Int) (0 : Nat)) (@List.cons PySem.Value (@PySem.Value.ref (245 : Nat)) (@List.cons PySem.Value (@PySem.Value.bool Bool.true) (@List.cons PySem.Value (@PySem.Value.int (181 : Int) (0 : Nat)) (@List.cons PySem.Value (@PySem.Value.ref (246 : Nat)) (@List.cons PySem.Value PySem.Value.none (@List.cons PySem.Value (@PySem.Value.ref (247 : Nat)) (@List.cons PySem.Value (@PySem.Value.ref (248 : Nat)) (@List.cons PySem.Value (@PySem.Value.ref (249 : Nat)) (@List.cons PySem.Value (@PySem.Value.int (626 : Int) (0 : Nat)) (@List.cons PySem.Value (@PySem.Value.int (163 : Int) (0 : Nat)) (@List.cons PySem.Value (@PySem.Value.str (Str.ofString "/claim/cut.py") (627 : Nat)) (@List.nil PySem.Value)))))))))))))))))))))) (@List.toArray (@Option PySem.Value) (@List.nil (@Option PySem.Value)))))) ::
  (@Prod.mk Nat Obj (nat_lit 251) (o251 P)) ::
  (@Prod.mk Nat Obj (nat_lit 257) ((@PySem.Obj.mk (@PySem.Value.type "code") (@Option.none Nat) (@PySem.Data.fields (@List.toArray PySem.Value (@List.cons PySem.Value (@PySem.Value.str (Str.ofString "standard_width") (629 : Nat)) (@List.cons PySem.Value (@PySem.Value.str (Str.ofString "standard_width") (630 : Nat)) (@List.cons PySem.Value (@PySem.Value.str (Str.ofString "/claim/cut.py") (631 : Nat)) (@List.cons PySem.Value (@PySem.Value.int (168 : Int) (0 : Nat)) (@List.cons PySem.Value (@PySem.Value.int (2 : Int) (0 : Nat)) (@List.cons PySem.Value (@PySem.Value.int (0 : Int) (0 : Nat)) (@List.cons PySem.Value (@PySem.Value.int (0 : Int) (0 : Nat)) (@List.cons PySem.Value (@PySem.Value.int (3 : Int) (0 : Nat)) (@List.cons PySem.Value (@PySem.Value.ref (252 : Nat)) (@List.cons PySem.Value (@PySem.Value.bool Bool.true) (@List.cons PySem.Value (@PySem.Value.int (181 : Int) (0 : Nat)) (@List.cons PySem.Value (@PySem.Value.ref (253 : Nat)) (@List.cons PySem.Value PySem.Value.none (@List.cons PySem.Value (@PySem.Value.ref (254 : Nat)) (@List.cons PySem.Value (@PySem.Value.ref (255 : Nat)) (@List.cons PySem.Value (@PySem.Value.ref (256 : Nat)) (@List.cons PySem.Value (@PySem.Value.int (635 : Int) (0 : Nat)) (@List.cons PySem.Value (@PySem.Value.int (168 : Int) (0 : Nat)) (@List.cons PySem.Value (@PySem.Value.str (Str.ofString "/claim/cut.py") (636 : Nat)) (@List.nil PySem.Value)))))))))))))))))))))) (@List.toArray (@Option PySem.Value) (@List.nil (@Option PySem.Value)))))) ::
  (@Prod.mk Nat Obj (nat_lit 258) (o258 P)) ::
  (@Prod.mk Nat Obj (nat_lit 264) ((@PySem.Obj.mk (@PySem.Value.type "code") (@Option.none Nat) (@PySem.Data.fields (@List.toArray PySem.Value (@List.cons PySem.Value (@PySem.Value.str (Str.ofString "cid_of") (638 : Nat)) (@List.cons PySem.Value (@PySem.Value.str (Str.ofString "cid_of") (639 : Nat)) (@List.cons PySem.Value (@PySem.Value.str (Str.ofString "/claim/cut.py") (640 : Nat)) (@List.cons PySem.Value (@PySem.Value.int (171 : Int) (0 : Nat)) (@List.cons PySem.Value (@PySem.Value.int (2 : Int) (0 : Nat)) (@List.cons PySem.Value (@PySem.Value.int (0 : Int) (0 : Nat)) (@List.cons PySem.Value (@PySem.Value.int (0 : Int) (0 : Nat)) (@List.cons PySem.Value (@PySem.Value.int (3 : Int) (0 : Nat)) (@List.cons PySem.Value (@PySem.Value.ref (259 : Nat)) (@List.cons PySem.Value (@PySem.Value.bool Bool.true) (@List.cons PySem.Value (@PySem.Value.int (181 : Int) (0 : Nat)) (@List.cons PySem.Value (@PySem.Value.ref (260 : Nat)) (@List.cons PySem.Value PySem.Value.none (@List.cons PySem.Value (@PySem.Value.ref (261 : Nat)) (@List.cons PySem.Value (@PySem.Value.ref (262 : Nat)) (@List.cons PySem.Value (@PySem.Value.ref (263 : Nat)) (@List.cons PySem.Value (@PySem.Value.int (648 : Int) (0 : Nat)) (@List.cons PySem.Value (@PySem.Value.int (171 : Int) (0 : Nat)) (@List.cons PySem.Value (@PySem.Value.str (Str.ofString "/claim/cut.py") (649 : Nat)) (@List.nil PySem.Value)))))))))))))))))))))) (@List.toArray (@Option PySem.Value) (@List.nil (@Option PySem.Value)))))) ::
  (@Prod.mk Nat Obj (nat_lit 265) (o265 P)) ::
  (@Prod.mk Nat Obj (nat_lit 278) ((@PySem.Obj.mk (@PySem.Value.type "code") (@Option.none Nat) (@PySem.Data.fields (@List.toArray PySem.Value (@List.cons PySem.Value (@PySem.Value.str (Str.ofString "__init__") (663 : Nat)) (@List.cons PySem.Value (@PySem.Value.str (Str.ofString "Font.__init__") (664 : Nat)) (@List.cons PySem.Value (@PySem.Value.str (Str.ofString "/claim/cut.py") (665 : Nat)) (@List.cons PySem.Value (@PySem.Value.int (179 : Int) (0 : Nat)) (@List.cons PySem.Value (@PySem.Value.int (8 : Int) (0 : Nat)) (@List.cons PySem.Value (@PySem.Value.int (0 : Int) (0 : Nat)) (@List.cons PySem.Value (@PySem.Value.int (0 : Int) (0 : Nat)) (@List.cons PySem.Value (@PySem.Value.int (3 : Int) (0 : Nat)) (@List.cons PySem.Value (@PySem.Value.ref (273 : Nat)) (@List.cons PySem.Value (@PySem.Value.bool Bool.true) (@List.cons PySem.Value (@PySem.Value.int (181 : Int) (0 : Nat)) (@List.cons PySem.Value (@PySem.Value.ref (274 : Nat)) (@List.cons PySem.Value PySem.Value.none (@List.cons PySem.Value (@PySem.Value.ref (275 : Nat)) (@List.cons PySem.Value (@PySem.Value.ref (276 : Nat)) (@List.cons PySem.Value (@PySem.Value.ref (277 : Nat)) (@List.cons PySem.Value (@PySem.Value.int (674 : Int) (0 : Nat)) (@List.cons PySem.Value (@PySem.Value.int (179 : Int) (0 : Nat)) (@List.cons PySem.Value (@PySem.Value.str (Str.ofString "/claim/cut.py") (675 : Nat)) (@List.nil PySem.Value)))))))))))))))))))))) (@List.toArray (@Option PySem.Value) (@List.nil (@Option PySem.Value)))))) ::
  (@Prod.mk Nat Obj (nat_lit 279) (o279 P)) ::
  (@Prod.mk Nat Obj (nat_lit 290) ((@PySem.Obj.mk (@PySem.Value.type "code") (@Option.none Nat) (@PySem.Data.fields (@List.toArray PySem.Value (@List.cons PySem.Value (@PySem.Value.str (Str.ofString "width") (683 : Nat)) (@List.cons PySem.Value (@PySem.Value.str (Str.ofString "Font.width") (684 : Nat)) (@List.cons PySem.Value (@PySem.Value.str (Str.ofString "/claim/cut.py") (685 : Nat)) (@List.cons PySem.Value (@PySem.Value.int (193 : Int) (0 : Nat)) (@List.cons PySem.Value (@PySem.Value.int (2 : Int) (0 : Nat)) (@List.cons PySem.Value (@PySem.Value.int (0 : Int) (0 : Nat)) (@List.cons PySem.Value (@PySem.Value.int (0 : Int) (0 : Nat)) (@List.cons PySem.Value (@PySem.Value.int (3 : Int) (0 : Nat)) (@List.cons PySem.Value (@PySem.Value.ref (285 : Nat)) (@List.cons PySem.Value (@PySem.Value.bool Bool.true) (@List.cons PySem.Value (@PySem.Value.int (181 : Int) (0 : Nat)) (@List.cons PySem.Value (@PySem.Value.ref (286 : Nat)) (@List.cons PySem.Value PySem.Value.none (@List.cons PySem.Value (@PySem.Value.ref (287 : Nat)) (@List.cons PySem.Value (@PySem.Value.ref (288 : Nat)) (@List.cons PySem.Value (@PySem.Value.ref (289 : Nat)) (@List.cons PySem.Value (@PySem.Value.int (689 : Int) (0 : Nat)) (@List.cons PySem.Value (@PySem.Value.int (193 : Int) (0 : Nat)) (@List.cons PySem.Value (@PySem.Value.str (Str.ofString "/claim/cut.py") (690 : Nat)) (@List.nil PySem.Value)))))))))))))))))))))) (@List.toArray (@Option PySem.Value) (@List.nil (@Option PySem.Value)))))) ::
  (@Prod.mk Nat Obj (nat_lit 291) (o291 P)) ::
  (@Prod.mk Nat Obj (nat_lit 300) ((@PySem.Obj.mk (@PySem.Value.type "dict") (@Option.none Nat) (@PySem.Data.dict (@List.toArray PySem.DictEntry (@List.cons PySem.DictEntry (@PySem.DictEntry.mk (@PySem.PyData.keyHash P (Str.ofString "__module__")) (@PySem.Value.str (Str.ofString "__module__") (658 : Nat)) (@PySem.Value.str (Str.ofString "paperhold.fonts") (615 : Nat))) (@List.cons PySem.DictEntry (@PySem.DictEntry.mk (@PySem.PyData.keyHash P (Str.ofString "__firstlineno__")) (@PySem.Value.str (Str.ofString "__firstlineno__") (662 : Nat)) (@PySem.Value.int (177 : Int) (661 : Nat))) (@List.cons PySem.DictEntry (@PySem.DictEntry.mk (@PySem.PyData.keyHash P (Str.ofString "__init__")) (@PySem.Value.str (Str.ofString "__init__") (676 : Nat)) (@PySem.Value.ref (279 : Nat))) (@List.cons PySem.DictEntry (@PySem.DictEntry.mk (@PySem.PyData.keyHash P (Str.ofString "codes")) (@PySem.Value.str (Str.ofString "codes") (682 : Nat)) (@PySem.Value.ref (284 : Nat))) (@List.cons PySem.DictEntry (@PySem.DictEntry.mk (@PySem.PyData.keyHash P (Str.ofString "width")) (@PySem.Value.str (Str.ofString "width") (691 : Nat)) (@PySem.Value.ref (291 : Nat))) (@List.cons PySem.DictEntry (@PySem.DictEntry.mk (@PySem.PyData.keyHash P (Str.ofString "text")) (@PySem.Value.str (Str.ofString "text") (699 : Nat)) (@PySem.Value.ref (298 : Nat))) (@List.cons PySem.DictEntry (@PySem.DictEntry.mk (@PySem.PyData.keyHash P (Str.ofString "__static_attributes__")) (@PySem.Value.str (Str.ofString "__static_attributes__") (707 : Nat)) (@PySem.Value.ref (299 : Nat))) (@List.cons PySem.DictEntry (@PySem.DictEntry.mk (@PySem.PyData.keyHash P (Str.ofString "__dict__")) (@PySem.Value.str (Str.ofString "__dict__") (709 : Nat)) (@PySem.Value.ref (302 : Nat))) (@List.cons PySem.DictEntry (@PySem.DictEntry.mk (@PySem.PyData.keyHash P (Str.ofString "__weakref__")) (@PySem.Value.str (Str.ofString "__weakref__") (711 : Nat)) (@PySem.Value.ref (303 : Nat))) (@List.cons PySem.DictEntry (@PySem.DictEntry.mk (@PySem.PyData.keyHash P (Str.ofString "__doc__")) (@PySem.Value.str (Str.ofString "__doc__") (712 : Nat)) PySem.Value.none) (@List.nil PySem.DictEntry)))))))))))) (4 : Nat)) (@List.toArray (@Option PySem.Value) (@List.nil (@Option PySem.Value)))))) ::
  (@Prod.mk Nat Obj (nat_lit 301) ((@PySem.Obj.mk (@PySem.Value.type "type") (@Option.none Nat) (@PySem.Data.cls (@PySem.ClassData.mk (Str.ofString "Font") (@List.cons PySem.Value (@PySem.Value.type "object") (@List.nil PySem.Value)) (@List.cons PySem.Value (@PySem.Value.ref (301 : Nat)) (@List.cons PySem.Value (@PySem.Value.type "object") (@List.nil PySem.Value))) (300 : Nat) (Str.ofString "Font") Bool.true (@List.nil PySem.Str) (@List.nil PySem.Value) Bool.false (@Option.none Bool) Bool.false)) (@List.toArray (@Option PySem.Value) (@List.cons (@Option PySem.Value) (@Option.none PySem.Value) (@List.cons (@Option PySem.Value) (@Option.none PySem.Value) (@List.cons (@Option PySem.Value) (@Option.some PySem.Value (@PySem.Value.str (Str.ofString "Font") (651 : Nat))) (@List.cons (@Option PySem.Value) (@Option.some PySem.Value (@PySem.Value.str (Str.ofString "Font") (659 : Nat))) (@List.cons (@Option PySem.Value) (@Option.some PySem.Value (@PySem.Value.builtin "object.__new__")) (@List.cons (@Option PySem.Value) (@Option.some PySem.Value (@PySem.Value.bool Bool.true)) (@List.nil (@Option PySem.Value)))))))))))) ::
  (@Prod.mk Nat Obj (nat_lit 302) ((@PySem.Obj.mk (@PySem.Value.type "getset_descriptor") (@Option.none Nat) (@PySem.Data.fields (@List.toArray PySem.Value (@List.cons PySem.Value (@PySem.Value.str (Str.ofString "__dict__") (708 : Nat)) (@List.cons PySem.Value (@PySem.Value.ref (301 : Nat)) (@List.cons PySem.Value (@PySem.Value.builtin "function.__dict__") (@List.cons PySem.Value (@PySem.Value.builtin "function.__dict__#set") (@List.nil PySem.Value))))))) (@List.toArray (@Option PySem.Value) (@List.nil (@Option PySem.Value)))))) ::
  (@Prod.mk Nat Obj (nat_lit 303) ((@PySem.Obj.mk (@PySem.Value.type "getset_descriptor") (@Option.none Nat) (@PySem.Data.fields (@List.toArray PySem.Value (@List.cons PySem.Value (@PySem.Value.str (Str.ofString "__weakref__") (710 : Nat)) (@List.cons PySem.Value (@PySem.Value.ref (301 : Nat)) (@List.cons PySem.Value (@PySem.Value.builtin "ExceptionGroup.__weakref__") (@List.cons PySem.Value PySem.Value.none (@List.nil PySem.Value))))))) (@List.toArray (@Option PySem.Value) (@List.nil (@Option PySem.Value)))))) ::
  (@Prod.mk Nat Obj (nat_lit 309) ((@PySem.Obj.mk (@PySem.Value.type "code") (@Option.none Nat) (@PySem.Data.fields (@List.toArray PySem.Value (@List.cons PySem.Value (@PySem.Value.str (Str.ofString "_law_pot") (717 : Nat)) (@List.cons PySem.Value (@PySem.Value.str (Str.ofString "_law_pot") (718 : Nat)) (@List.cons PySem.Value (@PySem.Value.str (Str.ofString "/claim/cut.py") (719 : Nat)) (@List.cons PySem.Value (@PySem.Value.int (205 : Int) (0 : Nat)) (@List.cons PySem.Value (@PySem.Value.int (1 : Int) (0 : Nat)) (@List.cons PySem.Value (@PySem.Value.int (0 : Int) (0 : Nat)) (@List.cons PySem.Value (@PySem.Value.int (0 : Int) (0 : Nat)) (@List.cons PySem.Value (@PySem.Value.int (3 : Int) (0 : Nat)) (@List.cons PySem.Value (@PySem.Value.ref (306 : Nat)) (@List.cons PySem.Value (@PySem.Value.bool Bool.true) (@List.cons PySem.Value (@PySem.Value.int (181 : Int) (0 : Nat)) (@List.cons PySem.Value (@PySem.Value.ref (307 : Nat)) (@List.cons PySem.Value PySem.Value.none (@List.cons PySem.Value PySem.Value.none (@List.cons PySem.Value PySem.Value.none (@List.cons PySem.Value (@PySem.Value.ref (308 : Nat)) (@List.cons PySem.Value (@PySem.Value.int (720 : Int) (0 : Nat)) (@List.cons PySem.Value (@PySem.Value.int (205 : Int) (0 : Nat)) (@List.cons PySem.Value (@PySem.Value.str (Str.ofString "/claim/cut.py") (721 : Nat)) (@List.nil PySem.Value)))))))))))))))))))))) (@List.toArray (@Option PySem.Value) (@List.nil (@Option PySem.Value)))))) ::
  (@Prod.mk Nat Obj (nat_lit 310) (o310 P)) ::
  (@Prod.mk Nat Obj (nat_lit 316) ((@PySem.Obj.mk (@PySem.Value.type "code") (@Option.none Nat) (@PySem.Data.fields (@List.toArray PySem.Value (@List.cons PySem.Value (@PySem.Value.str (Str.ofString "_law_draw") (723 : Nat)) (@List.cons PySem.Value (@PySem.Value.str (Str.ofString "_law_draw") (724 : Nat)) (@List.cons PySem.Value (@PySem.Value.str (Str.ofString "/claim/cut.py") (725 : Nat)) (@List.cons PySem.Value (@PySem.Value.int (211 : Int) (0 : Nat)) (@List.cons PySem.Value (@PySem.Value.int (2 : Int) (0 : Nat)) (@List.cons PySem.Value (@PySem.Value.int (0 : Int) (0 : Nat)) (@List.cons PySem.Value (@PySem.Value.int (0 : Int) (0 : Nat)) (@List.cons PySem.Value (@PySem.Value.int (3 : Int) (0 : Nat)) (@List.cons PySem.Value (@PySem.Value.ref (311 : Nat)) (@List.cons PySem.Value (@PySem.Value.bool Bool.true) (@List.cons PySem.Value (@PySem.Value.int (181 : Int) (0 : Nat)) (@List.cons PySem.Value (@PySem.Value.ref (312 : Nat)) (@List.cons PySem.Value PySem.Value.none (@List.cons PySem.Value (@PySem.Value.ref (313 : Nat)) (@List.cons PySem.Value (@PySem.Value.ref (314 : Nat)) (@List.cons PySem.Value (@PySem.Value.ref (315 : Nat)) (@List.cons PySem.Value (@PySem.Value.int (731 : Int) (0 : Nat)) (@List.cons PySem.Value (@PySem.Value.int (211 : Int) (0 : Nat)) (@List.cons PySem.Value (@PySem.Value.str (Str.ofString "/claim/cut.py") (732 : Nat)) (@List.nil PySem.Value)))))))))))))))))))))) (@List.toArray (@Option PySem.Value) (@List.nil (@Option PySem.Value)))))) ::
  (@Prod.mk Nat Obj (nat_lit 317) (o317 P)) ::
  (@Prod.mk Nat Obj (nat_lit 323) ((@PySem.Obj.mk (@PySem.Value.type "code") (@Option.none Nat) (@PySem.Data.fields (@List.toArray PySem.Value (@List.cons PySem.Value (@PySem.Value.str (Str.ofString "_law_names") (734 : Nat)) (@List.cons PySem.Value (@PySem.Value.str (Str.ofString "_law_names") (735 : Nat)) (@List.cons PySem.Value (@PySem.Value.str (Str.ofString "/claim/cut.py") (736 : Nat)) (@List.cons PySem.Value (@PySem.Value.int (222 : Int) (0 : Nat)) (@List.cons PySem.Value (@PySem.Value.int (0 : Int) (0 : Nat)) (@List.cons PySem.Value (@PySem.Value.int (0 : Int) (0 : Nat)) (@List.cons PySem.Value (@PySem.Value.int (0 : Int) (0 : Nat)) (@List.cons PySem.Value (@PySem.Value.int (3 : Int) (0 : Nat)) (@List.cons PySem.Value (@PySem.Value.ref (318 : Nat)) (@List.cons PySem.Value (@PySem.Value.bool Bool.true) (@List.cons PySem.Value (@PySem.Value.int (181 : Int) (0 : Nat)) (@List.cons PySem.Value (@PySem.Value.ref (319 : Nat)) (@List.cons PySem.Value PySem.Value.none (@List.cons PySem.Value (@PySem.Value.ref (320 : Nat)) (@List.cons PySem.Value (@PySem.Value.ref (321 : Nat)) (@List.cons PySem.Value (@PySem.Value.ref (322 : Nat)) (@List.cons PySem.Value (@PySem.Value.int (737 : Int) (0 : Nat)) (@List.cons PySem.Value (@PySem.Value.int (222 : Int) (0 : Nat)) (@List.cons PySem.Value (@PySem.Value.str (Str.ofString "/claim/cut.py") (738 : Nat)) (@List.nil PySem.Value)))))))))))))))))))))) (@List.toArray (@Option PySem.Value) (@List.nil (@Option PySem.Value)))))) ::
  (@Prod.mk Nat Obj (nat_lit 324) (o324 P)) ::
  (@Prod.mk Nat Obj (nat_lit 328) ((@PySem.Obj.mk (@PySem.Value.type "code") (@Option.none Nat) (@PySem.Data.fields (@List.toArray PySem.Value (@List.cons PySem.Value (@PySem.Value.str (Str.ofString "_law_rows") (740 : Nat)) (@List.cons PySem.Value (@PySem.Value.str (Str.ofString "_law_rows") (741 : Nat)) (@List.cons PySem.Value (@PySem.Value.str (Str.ofString "/claim/cut.py") (742 : Nat)) (@List.cons PySem.Value (@PySem.Value.int (224 : Int) (0 : Nat)) (@List.cons PySem.Value (@PySem.Value.int (1 : Int) (0 : Nat)) (@List.cons PySem.Value (@PySem.Value.int (0 : Int) (0 : Nat)) (@List.cons PySem.Value (@PySem.Value.int (0 : Int) (0 : Nat)) (@List.cons PySem.Value (@PySem.Value.int (3 : Int) (0 : Nat)) (@List.cons PySem.Value (@PySem.Value.ref (325 : Nat)) (@List.cons PySem.Value (@PySem.Value.bool Bool.true) (@List.cons PySem.Value (@PySem.Value.int (181 : Int) (0 : Nat)) (@List.cons PySem.Value (@PySem.Value.ref (326 : Nat)) (@List.cons PySem.Value PySem.Value.none (@List.cons PySem.Value PySem.Value.none (@List.cons PySem.Value PySem.Value.none (@List.cons PySem.Value (@PySem.Value.ref (327 : Nat)) (@List.cons PySem.Value (@PySem.Value.int (743 : Int) (0 : Nat)) (@List.cons PySem.Value (@PySem.Value.int (224 : Int) (0 : Nat)) (@List.cons PySem.Value (@PySem.Value.str (Str.ofString "/claim/cut.py") (744 : Nat)) (@List.nil PySem.Value)))))))))))))))))))))) (@List.toArray (@Option PySem.Value) (@List.nil (@Option PySem.Value)))))) ::
  (@Prod.mk Nat Obj (nat_lit 329) (o329 P)) ::
  (@Prod.mk Nat Obj (nat_lit 335) ((@PySem.Obj.mk (@PySem.Value.type "code") (@Option.none Nat) (@PySem.Data.fields (@List.toArray PySem.Value (@List.cons PySem.Value (@PySem.Value.str (Str.ofString "_law_in") (746 : Nat)) (@List.cons PySem.Value (@PySem.Value.str (Str.ofString "_law_in") (747 : Nat)) (@List.cons PySem.Value (@PySem.Value.str (Str.ofString "/claim/cut.py") (748 : Nat)) (@List.cons PySem.Value (@PySem.Value.int (232 : Int) (0 : Nat)) (@List.cons PySem.Value (@PySem.Value.int (3 : Int) (0 : Nat)) (@List.cons PySem.Value (@PySem.Value.int (0 : Int) (0 : Nat)) (@List.cons PySem.Value (@PySem.Value.int (0 : Int) (0 : Nat)) (@List.cons PySem.Value (@PySem.Value.int (3 : Int) (0 : Nat)) (@List.cons PySem.Value (@PySem.Value.ref (330 : Nat)) (@List.cons PySem.Value (@PySem.Value.bool Bool.true) (@List.cons PySem.Value (@PySem.Value.int (181 : Int) (0 : Nat)) (@List.cons PySem.Value (@PySem.Value.ref (331 : Nat)) (@List.cons PySem.Value PySem.Value.none (@List.cons PySem.Value (@PySem.Value.ref (332 : Nat)) (@List.cons PySem.Value (@PySem.Value.ref (333 : Nat)) (@List.cons PySem.Value (@PySem.Value.ref (334 : Nat)) (@List.cons PySem.Value (@PySem.Value.int (757 : Int) (0 : Nat)) (@List.cons PySem.Value (@PySem.Value.int (232 : Int) (0 : Nat)) (@List.cons PySem.Value (@PySem.Value.str (Str.ofString "/claim/cut.py") (758 : Nat)) (@List.nil PySem.Value)))))))))))))))))))))) (@List.toArray (@Option PySem.Value) (@List.nil (@Option PySem.Value)))))) ::
  (@Prod.mk Nat Obj (nat_lit 336) (o336 P)) :: []
end Mine
namespace Mine
abbrev topA (gd : Option (List Code)) (env : Env) (outer : List Env) : Around := { handled := none, depth := 340, frames := some (env :: outer), guards := gd, units := 60 }

/-- a comprehension by what holds of it between its turns -/
theorem comp_inv {prog : Program} {w : World} {A : Around} {h₀ : Heap} {L : Addr} {m : Str → Option Value} {env : Env} {elt : Expr} {x : Str} {scope : Scope} {cl : List (Str × Addr)} {s : Shared} {S : List (Addr × Obj) → Prop} {P : Nat → Value → Prop} {Fin : List Value → List (Addr × Obj) → Prop} {news : List (Addr × Obj)} {n : Nat}
    (J : Nat → List Value → List (Addr × Obj) → Prop) (h0 : J 0 [] news)
    (turn : ∀ i v I oI C oC D m₂ ys nw h tk (E' : Value → Shared → Prop), i < n → P i v → J i ys nw → LCg.NsObj oC m₂ → m₂ x = some v → Fr h₀ L h m → News h₀ L h ((I, oI) :: (C, oC) :: (D, LCg.lst ys) :: nw) → LCg.Off3 I C D nw → ((@Ne Nat I C) ∧ (@Ne Nat I D) ∧ (@Ne Nat C D)) →
      wpAny (model prog w) A (eval elt (compEnvC scope cl C env)) (LCg.CompEnd h₀ L m { s with heap := h, toks := tk } I oI C oC D (LCg.lst ys) S (fun y nw' => J (i + 1) (ys ++ [y]) nw')) E' { s with heap := h, toks := tk })
    (fin : ∀ ys nw, J n ys nw → Fin ys nw) : LCg.CompRest prog w A h₀ L m env elt x scope cl s S P Fin n 0 [] news := by
  have key : ∀ (j i : Nat) (ys : List Value) (nw : List (Addr × Obj)), i + j = n → J i ys nw → LCg.CompRest prog w A h₀ L m env elt x scope cl s S P Fin j i ys nw := by
    intro j
    induction j with
    | zero =>
      intro i ys nw hi hJ
      have e : i = n := by omega
      subst e
      exact LCg.CompRest.zero (fin ys nw hJ)
    | succ j ih =>
      intro i ys nw hi hJ
      refine LCg.CompRest.succ ?_
      intro v I oI C oC D m₂ h tk E' hv hC hx F N off ne
      refine wpAny_mono (turn i v I oI C oC D m₂ ys nw h tk E' (by omega) hv hJ hC hx F N off ne) (fun y s₂ hq => ?_) fun _ _ e => e
      obtain ⟨h', tk', nw', e, F', N', off', hS, hJ'⟩ := hq
      exact ⟨h', tk', nw', e, F', N', off', hS, ih (i + 1) _ _ (by omega) hJ'⟩
  exact key n 0 [] news (by omega) h0

theorem off1_mem {D : Addr} : ∀ {l : List (Addr × Obj)}, LCg.Off1 D l → ∀ p ∈ l, p.1 ≠ D
  | [], _, _, h => nomatch h
  | _ :: _, x, p, h => by
    rcases List.mem_cons.mp h with rfl | h
    · exact x.1
    · exact off1_mem x.2 p h
theorem allLt_mem {D : Addr} : ∀ {l : List (Addr × Obj)}, AllLt D l → ∀ p ∈ l, p.1 < D
  | [], _, _, h => nomatch h
  | _ :: _, x, p, h => by
    rcases List.mem_cons.mp h with rfl | h
    · exact x.1
    · exact allLt_mem x.2 p h
theorem lt_off {D : Addr} {l : List (Addr × Obj)} (h : ∀ p ∈ l, p.1 < D) : ∀ p ∈ l, p.1 ≠ D := fun p hp => Nat.ne_of_lt (h p hp)

theorem news_drop2 {h₀ h : Heap} {L : Addr} {a b c d : Addr × Obj} {R : List (Addr × Obj)} (N : News h₀ L h (a :: b :: c :: d :: R)) : News h₀ L h (a :: b :: R) := fun p hp => by
  rcases List.mem_cons.mp hp with rfl | hp
  · exact N _ (.head _)
  · rcases List.mem_cons.mp hp with rfl | hp
    · exact N _ (.tail _ (.head _))
    · exact N _ (.tail _ (.tail _ (.tail _ (.tail _ hp))))

/-- a ledger without two addresses -/
inductive Rem (P C : Addr) : List (Addr × Obj) → List (Addr × Obj) → Prop
  | nil : Rem P C [] []
  | all {R : List (Addr × Obj)} : (∀ p ∈ R, p.1 ≠ P) → (∀ p ∈ R, p.1 ≠ C) → Rem P C R R
  | keep {q : Addr × Obj} {l l' : List (Addr × Obj)} : @Ne Nat q.1 P → @Ne Nat q.1 C → Rem P C l l' → Rem P C (q :: l) (q :: l')
  | drop {q : Addr × Obj} {l l' : List (Addr × Obj)} : Rem P C l l' → Rem P C (q :: l) l'
theorem Rem.facts {P C : Addr} {l l' : List (Addr × Obj)} (h : Rem P C l l') : (∀ p ∈ l', p ∈ l) ∧ (∀ p ∈ l', p.1 ≠ P) ∧ ∀ p ∈ l', p.1 ≠ C := by
  induction h with
  | nil => exact ⟨fun _ h => h, fun _ h => (nomatch h), fun _ h => (nomatch h)⟩
  | all h1 h2 => exact ⟨fun _ h => h, h1, h2⟩
  | keep h1 h2 _ ih =>
    obtain ⟨a, b, c⟩ := ih
    exact ⟨fun p hp => (List.mem_cons.mp hp).elim (fun e => e ▸ .head _) fun h => .tail _ (a p h), fun p hp => (List.mem_cons.mp hp).elim (fun e => e ▸ h1) fun h => b p h, fun p hp => (List.mem_cons.mp hp).elim (fun e => e ▸ h2) fun h => c p h⟩
  | drop _ ih => exact ⟨fun p hp => .tail _ (ih.1 p hp), ih.2⟩

theorem wpAny_wider {α : Type} {M : Model} {A A' : Around} {t : Sem α} {Q : α → Shared → Prop} {E : Value → Shared → Prop} {s : Shared} (h : wpAny M A' t Q E s)
    (hh : A.handled = A'.handled) (hd : A.depth ≤ A'.depth) (hf : A.frames = A'.frames) (hg : A.guards = A'.guards) (hu : A.units ≤ A'.units) : wpAny M A t Q E s :=
  fun Γ p hΓ => h Γ p ⟨hΓ.1.trans hh, Nat.le_trans hΓ.2.1 hd, fun l hl => hΓ.2.2.1 l (hf.trans hl), fun g hg' => hΓ.2.2.2.1 g (hg.trans hg'), Nat.le_trans hΓ.2.2.2.2 hu⟩

/-- what an element hands on: the ledger as it was, and a value that is so -/
def ElIs (nw : List (Addr × Obj)) (p : Value → Prop) (y : Value) (nw' : List (Addr × Obj)) : Prop := nw' = nw ∧ p y
theorem ElIs.mk {nw : List (Addr × Obj)} {p : Value → Prop} {y : Value} (h : p y) : ElIs nw p y nw := ⟨rfl, h⟩

/-- a comprehension over ints whose elements are ints, and which changes nothing -/
theorem comp_ints {prog : Program} {w : World} {A : Around} {h₀ : Heap} {L : Addr} {m : Str → Option Value} {env : Env} {elt : Expr} {x : Str} {scope : Scope} {cl : List (Str × Addr)} {s : Shared} {S : List (Addr × Obj) → Prop} {Fin : List Value → List (Addr × Obj) → Prop} {news : List (Addr × Obj)} {vs : List Value} {ns : List Int}
    (hi : IntsAre vs ns)
    (turn : ∀ k t I oI C oC D m₂ ys h tk (E' : Value → Shared → Prop), LCg.NsObj oC m₂ → m₂ x = some (.int k t) → Fr h₀ L h m → News h₀ L h ((I, oI) :: (C, oC) :: (D, LCg.lst ys) :: news) → LCg.Off3 I C D news → ((@Ne Nat I C) ∧ (@Ne Nat I D) ∧ (@Ne Nat C D)) →
      wpAny (model prog w) A (eval elt (compEnvC scope cl C env)) (LCg.CompEnd h₀ L m { s with heap := h, toks := tk } I oI C oC D (LCg.lst ys) S (ElIs news fun y => ∃ k' t', y = .int k' t')) E' { s with heap := h, toks := tk })
    (fin : ∀ ys ks, IntsAre ys ks → ks.length = ns.length → Fin ys news) : LCg.CompRest prog w A h₀ L m env elt x scope cl s S (fun i v => vs.toArray[i]? = some v) Fin vs.toArray.size 0 [] news := by
  refine comp_inv (fun i ys nw => nw = news ∧ ∃ ks, IntsAre ys ks ∧ ks.length = i) ⟨rfl, [], .nil, rfl⟩ ?_ ?_
  · rintro i v I oI C oC D m₂ ys nw h tk E' hin hv ⟨rfl, ks, hks, hl⟩ hC hx F N off ne
    obtain ⟨k, t, rfl, _⟩ := IntsAre.at hi i v (by simpa using hv)
    refine wpAny_mono (turn k t I oI C oC D m₂ ys h tk E' hC hx F N off ne) (fun y s₂ hq => ?_) fun _ _ e => e
    obtain ⟨h', tk', nw', e, F', N', off', hS, hn, k', t', rfl⟩ := hq
    subst hn
    exact ⟨h', tk', nw', e, F', N', off', hS, rfl, ks ++ [k'], IntsAre.append hks (.cons k' t' .nil), by simp [hl]⟩
  · rintro ys nw ⟨rfl, ks, hks, hl⟩
    exact fin ys ks hks (by rw [hl, List.size_toArray]; exact hi.length)

section
variable {prog : Program} {w : World} {A : Around} {E : Value → Shared → Prop} {s : Shared} {env : Env} {h₀ : Heap} {x : Str} {body : List Stmt} {Q : Flow → Shared → Prop}
/-- a loop over a range by what holds of the frame and the ledger between its turns -/
theorem iter_rangeJ {r : Addr} {a₀ b₀ : Int} {t₀ u₀ v₀ : Tok} {n : Nat} {m₀ : Str → Option Value} {news : List (Addr × Obj)} (J : Nat → (Str → Option Value) → List (Addr × Obj) → Prop)
    (hh : A.handled = none) (hr : IsRange s.heap r a₀ b₀ 1 t₀ u₀ v₀) (hsmall : Builtin.Range.small a₀ b₀ 1 = true) (hsz : Builtin.Range.rangeSize a₀ b₀ 1 = (n : Int)) (F : Fr h₀ env.locals s.heap m₀) (N : News h₀ env.locals s.heap news) (hj : J 0 m₀ news)
    (turn : ∀ i t m₁ nx h tk own, i < n → OwnOff own (nx.map (·.1)) → J i m₁ nx →
      Fr h₀ env.locals h (fun y => if y = x then some (.int (a₀ + (i : Int)) t) else m₁ y) → News h₀ env.locals h (nx ++ own) →
      wpAny (model prog w) A (execs body env) (InvPostG h₀ env.locals (J (i + 1)) own { s with heap := h, toks := tk } Q) E { s with heap := h, toks := tk })
    (done : ∀ m₁ nx h tk, J n m₁ nx → Fr h₀ env.locals h m₁ → News h₀ env.locals h nx → Q .next { s with heap := h, toks := tk }) :
    wpAny (model prog w) A (pyIter (.ref r)) (fun it s₂ => LoopAtV prog w A h₀ env x body Q E it s₂) E s := by
  refine wpAny_pyIter_range hr hsmall ?_
  have W : Walks prog w A s.heap.objs.size [s.heap.objs.size] [s.heap.objs.size] n (fun i v => i < n ∧ ∃ t, v = .int (a₀ + i * 1) t)
      (fun i h => IsRangeIter h s.heap.objs.size (a₀ + (i : Nat) * 1) ((n : Int) - (i : Nat)) 1) := (Walks.range hh _ a₀ 1 n).bound
  refine kdr_loop J W (fun _ h => h) (fun _ h => h) ?_ ?_ ?_ ?_ (by show IsRangeIter _ _ _ _ _; rw [hsz]; simpa using Heap.get?_push_size _ rfl) (F.push _) (fun p hp => ⟨Heap.get?_push_of_some _ (N p hp).1, (N p hp).2⟩) hj ?_ ?_
  · intro i h hi b hb
    rw [List.mem_singleton.mp hb]
    exact ⟨_, hi⟩
  · intro hm
    exact absurd F.ns.lt ((List.mem_singleton.mp hm) ▸ Nat.lt_irrefl _)
  · intro b hb
    rw [List.mem_singleton.mp hb]
    exact next_is_new F
  · intro p hp hI
    exact absurd (Heap.lt_size (N p hp).1) ((List.mem_singleton.mp hI) ▸ Nat.lt_irrefl _)
  · rintro i v m₁ nx h tk own hi ⟨_, t, rfl⟩ hoff hJ F₁ N₁
    have e1 : a₀ + (i : Int) * 1 = a₀ + (i : Int) := by omega
    rw [e1] at F₁
    exact turn i t m₁ nx h tk own hi hoff hJ F₁ N₁
  · intro m₁ nx h tk hJ F₁ N₁
    exact done m₁ nx h tk hJ F₁ N₁
end
/-- what a name is known to hold, said first -/
theorem fr_see {h₀ h : Heap} {L : Addr} {m : Str → Option Value} (F : Fr h₀ L h m) (y : Str) {v : Value} (e : m y = some v) : Fr h₀ L h (fun z => if z = y then some v else m z) := by
  have : (fun z => if z = y then some v else m z) = m := by
    funext z
    by_cases h : z = y
    · subst h; simp [e]
    · simp [h]
  rw [this]; exact F

abbrev tupObj (vs : List Value) (n : Nat) : Obj := { cls := .type "tuple", data := .seq vs.toArray n }
/-- a row of widths: first, last, widths -/
structure Row where
  first : Int
  last : Int
  ws : List Int
/-- the ledger bears a row at a value -/
def RowAt (D : List (Addr × Obj)) (v : Value) (r : Row) : Prop :=
  ∃ (T W : Addr) (n k : Nat) (t1 t2 : Tok) (vs : List Value), v = .ref T ∧ (T, tupObj [.int r.first t1, .int r.last t2, .ref W] n) ∈ D ∧ (W, listOf vs.toArray k) ∈ D ∧ IntsAre vs r.ws
inductive RowsAt (D : List (Addr × Obj)) : List Value → List Row → Prop
  | nil : RowsAt D [] []
  | cons {v : Value} {r : Row} {vs : List Value} {rs : List Row} : RowAt D v r → RowsAt D vs rs → RowsAt D (v :: vs) (r :: rs)
theorem RowAt.mono {D D' : List (Addr × Obj)} (h : ∀ p ∈ D, p ∈ D') {v : Value} {r : Row} (x : RowAt D v r) : RowAt D' v r := by
  obtain ⟨T, W, n, k, t1, t2, vs, e, h1, h2, h3⟩ := x
  exact ⟨T, W, n, k, t1, t2, vs, e, h _ h1, h _ h2, h3⟩
theorem RowsAt.mono {D D' : List (Addr × Obj)} (h : ∀ p ∈ D, p ∈ D') {vs : List Value} {rs : List Row} (x : RowsAt D vs rs) : RowsAt D' vs rs := by
  induction x with
  | nil => exact .nil
  | cons a _ ih => exact .cons (a.mono h) ih
theorem RowsAt.length {D : List (Addr × Obj)} {vs : List Value} {rs : List Row} (x : RowsAt D vs rs) : vs.length = rs.length := by
  induction x with
  | nil => rfl
  | cons _ _ ih => simp [ih]
theorem RowsAt.snoc {D : List (Addr × Obj)} {vs : List Value} {rs : List Row} (x : RowsAt D vs rs) {v : Value} {r : Row} (y : RowAt D v r) : RowsAt D (vs ++ [v]) (rs ++ [r]) := by
  induction x with
  | nil => exact .cons y .nil
  | cons a _ ih => exact .cons a ih
theorem RowsAt.get {D : List (Addr × Obj)} {vs : List Value} {rs : List Row} (x : RowsAt D vs rs) : ∀ (i : Nat) (v : Value), vs[i]? = some v → ∃ r, rs[i]? = some r ∧ RowAt D v r := by
  induction x with
  | nil => intro i v h; simp at h
  | cons a _ ih =>
    intro i v h
    cases i with
    | zero =>
      simp only [List.getElem?_cons_zero, Option.some.injEq] at h
      subst h
      exact ⟨_, rfl, a⟩
    | succ i =>
      simp only [List.getElem?_cons_succ] at h
      obtain ⟨r, e, h'⟩ := ih i v h
      exact ⟨r, by simpa using e, h'⟩
/-- a row as the law draws it -/
structure Row.Ok (r : Row) : Prop where
  lo : 0 ≤ r.first
  hi : r.first < 20
  len : r.first ≤ r.last ∧ r.last ≤ r.first + 4
  ws : (r.ws.length : Int) = r.last - r.first + 1 ∨ r.ws.length = 1
  nn : ∀ k ∈ r.ws, 0 ≤ k ∧ k < 1000
def Apart (D R : List (Addr × Obj)) : Prop := ∀ p ∈ D, ∀ q ∈ R, @Ne Nat p.1 q.1
theorem Apart.nil {R : List (Addr × Obj)} : Apart [] R := fun _ h => nomatch h
theorem Apart.cons {p : Addr × Obj} {D R : List (Addr × Obj)} (h : ∀ q ∈ R, q.1 ≠ p.1) (t : Apart D R) : Apart (p :: D) R := fun q hq r hr => by
  rcases List.mem_cons.mp hq with rfl | hq
  · exact Ne.symm (h r hr)
  · exact t q hq r hr

/-- the walk stands still here -/
def Halt (p : Prop) : Prop := p
theorem halt {p : Prop} (h : Halt p) : p := h

theorem tail_off {D R own : List (Addr × Obj)} {a : Addr} (h1 : ∀ p ∈ D, p.1 ≠ a) (h2 : ∀ p ∈ R, p.1 ≠ a) (h3 : ∀ p ∈ own, p.1 ≠ a) : ∀ p ∈ D ++ (R ++ own), p.1 ≠ a := fun p hp => by
  rcases List.mem_append.mp hp with hp | hp
  · exact h1 p hp
  · rcases List.mem_append.mp hp with hp | hp
    · exact h2 p hp
    · exact h3 p hp

theorem tl4 {a b c d : Prop} {D : Addr} {T1 : List (Addr × Obj)} (h : a ∧ b ∧ c ∧ d ∧ LCg.Off1 D T1) : ∀ p ∈ T1, p.1 ≠ D := off1_mem h.2.2.2.2
theorem tl5 {a b c d e : Prop} {D : Addr} {T1 : List (Addr × Obj)} (h : a ∧ b ∧ c ∧ d ∧ e ∧ AllLt D T1) : ∀ p ∈ T1, p.1 ≠ D := lt_off (allLt_mem h.2.2.2.2.2)
theorem tl6 {a b c d e f : Prop} {D : Addr} {T1 : List (Addr × Obj)} (h : a ∧ b ∧ c ∧ d ∧ e ∧ f ∧ AllLt D T1) : ∀ p ∈ T1, p.1 ≠ D := lt_off (allLt_mem h.2.2.2.2.2.2)

/-- a block of the ledger that bears a list of rows -/
def RowsBlk (RL : Addr) (D : List (Addr × Obj)) (rs : List Row) : Prop :=
  ∃ (vs : List Value) (k : Nat), (RL, listOf vs.toArray k) ∈ D ∧ RowsAt D vs rs ∧ rs.length ≤ 3 ∧ ∀ r ∈ rs, r.Ok

section
variable {prog : Program} {w : World} {A : Around} {E : Value → Shared → Prop} {s : Shared} {env : Env} {h₀ : Heap} {target : Expr} {body : List Stmt} {Q : Flow → Shared → Prop}
theorem items_inv {xs : List Value} {I : Addr} {keep : List (Addr × Obj)} (J : Nat → (Str → Option Value) → List (Addr × Obj) → Prop)
    (turn : ∀ i v m₁ nx h tk oI, xs[i]? = some v → SubL keep nx → J i m₁ nx → Fr h₀ env.locals h m₁ → oI.cls = .type "list_iterator" → News h₀ env.locals h ((I, oI) :: nx) →
      wpAny (model prog w) A (assign target env v) (fun _ s₂ => wpAny (model prog w) A (execs body env) (UnrPostW h₀ env.locals { s with heap := h, toks := tk } [(I, oI)] (fun m' n' => SubL keep n' ∧ J (i + 1) m' n') Q) E s₂) E { s with heap := h, toks := tk })
    (done : ∀ m₁ nx h tk, J xs.length m₁ nx → Fr h₀ env.locals h m₁ → News h₀ env.locals h nx → Q .next { s with heap := h, toks := tk }) :
    ∀ (j i : Nat) m nx, i + j = xs.length → J i m nx → SubL keep nx → ItemsRest prog w A E h₀ env target body Q s [(I, "list_iterator")] keep ((xs.drop i).map .val) m nx := by
  intro j
  induction j with
  | zero =>
    intro i m nx hi hJ hk
    have e : i = xs.length := by omega
    subst e
    rw [List.drop_length]
    exact ItemsRest.zero fun h tk F N => done m nx h tk hJ F N
  | succ j ih =>
    intro i m nx hi hJ hk
    have hlt : i < xs.length := by omega
    rw [List.drop_eq_getElem_cons hlt]
    refine ItemsRest.val fun h tk F => AllObj.cons fun oI hc => AllObj.nil ?_
    intro N
    refine wpAny_mono (turn i xs[i] m nx h tk oI (List.getElem?_eq_getElem hlt) hk hJ F hc N) (fun _ s₂ h₂ => wpAny_mono h₂ (fun f s₃ p => ?_) fun _ _ e => e) fun _ _ e => e
    have up : UnrEndW h₀ env.locals { s with heap := h, toks := tk } [(I, oI)] (fun m' n' => SubL keep n' ∧ J (i + 1) m' n') s₃ →
        UnrEndW h₀ env.locals { s with heap := h, toks := tk } [(I, oI)] (fun m' n' => SubL keep n' ∧ ItemsRest prog w A E h₀ env target body Q s [(I, "list_iterator")] keep ((xs.drop (i + 1)).map .val) m' n') s₃ := by
      rintro ⟨h', tk', m', news', e, F', N', off, hk', hJ'⟩
      exact ⟨h', tk', m', news', e, F', N', off, hk', ih (i + 1) m' news' (by omega) hJ' hk'⟩
    cases f with
    | ret v => exact p
    | brk => exact p
    | next => exact up p
    | cont => exact up p
/-- a loop over a made list, its target any, by what holds between its turns -/
theorem iter_listJ {ax : Addr} {vs : List Value} {n : Nat} {m₀ : Str → Option Value} {news : List (Addr × Obj)} (J : Nat → (Str → Option Value) → List (Addr × Obj) → Prop)
    (hh : A.handled = none) (F : Fr h₀ env.locals s.heap m₀) (N : News h₀ env.locals s.heap news) (hm : (ax, listOf vs.toArray n) ∈ news) (hj : J 0 m₀ news)
    (turn : ∀ I i v m₁ nx h tk oI, (∀ p ∈ news, p.1 < I) → vs[i]? = some v → SubL [(ax, listOf vs.toArray n)] nx → J i m₁ nx → Fr h₀ env.locals h m₁ → oI.cls = .type "list_iterator" → News h₀ env.locals h ((I, oI) :: nx) →
      wpAny (model prog w) A (assign target env v) (fun _ s₂ => wpAny (model prog w) A (execs body env) (UnrPostW h₀ env.locals { s with heap := h, toks := tk } [(I, oI)] (fun m' n' => SubL [(ax, listOf vs.toArray n)] n' ∧ J (i + 1) m' n') Q) E s₂) E { s with heap := h, toks := tk })
    (done : ∀ m₁ nx h tk, J vs.length m₁ nx → Fr h₀ env.locals h m₁ → News h₀ env.locals h nx → Q .next { s with heap := h, toks := tk }) :
    wpAny (model prog w) A (pyIter (.ref ax)) (fun it s₂ => TurnsAt prog w A h₀ env target body Q E it s₂) E s := by
  refine iter_listTurns hh F N hm rfl rfl fun I hI => ?_
  have := items_inv (I := I) (keep := [(ax, listOf vs.toArray n)]) (xs := vs) (E := E) (prog := prog) (w := w) (A := A) (s := s) (env := env) (h₀ := h₀) (target := target) (body := body) (Q := Q) J (fun i v m₁ nx h tk oI => turn I i v m₁ nx h tk oI hI) done vs.length 0 m₀ news (by omega) hj ⟨hm, trivial⟩
  simpa using this
end
/-- the width of a code by a list of rows -/
def Row.has (r : Row) (c : Int) : Bool := decide (r.first ≤ c) && decide (c ≤ r.last)
def Row.at (r : Row) (c : Int) : Int := if (r.ws.length : Int) = r.last - r.first + 1 then r.ws.getD (c - r.first).toNat 0 else r.ws.getD 0 0
def rowVal (d c : Int) : List Row → Int
  | [] => d
  | r :: rs => if r.has c then r.at c else rowVal d c rs

theorem rowVal_drop {d c : Int} {rs : List Row} {i : Nat} {r : Row} (h : rs[i]? = some r) : rowVal d c (rs.drop i) = if r.has c then r.at c else rowVal d c (rs.drop (i + 1)) := by
  obtain ⟨hi, e⟩ := List.getElem?_eq_some_iff.mp h
  rw [List.drop_eq_getElem_cons hi, e]
  rfl
theorem has_of {r : Row} {c : Int} (h1 : r.first ≤ c) (h2 : c ≤ r.last) : r.has c = true := by simp [Row.has, h1, h2]
theorem rowVal_hit1 {d c : Int} {rs : List Row} {i : Nat} {r : Row} (hr : rowVal d c (rs.drop i) = rowVal d c rs) (h : rs[i]? = some r) (h1 : r.first ≤ c) (h2 : c ≤ r.last) (h3 : (r.ws.length : Int) = r.last - r.first + 1) :
    rowVal d c rs = r.ws.getD (c - r.first).toNat 0 := by
  rw [← hr, rowVal_drop h, if_pos (has_of h1 h2), Row.at, if_pos h3]
theorem rowVal_hit2 {d c : Int} {rs : List Row} {i : Nat} {r : Row} (hr : rowVal d c (rs.drop i) = rowVal d c rs) (h : rs[i]? = some r) (h1 : r.first ≤ c) (h2 : c ≤ r.last) (h3 : ¬ (r.ws.length : Int) = r.last - r.first + 1) :
    rowVal d c rs = r.ws.getD 0 0 := by
  rw [← hr, rowVal_drop h, if_pos (has_of h1 h2), Row.at, if_neg h3]
theorem rowVal_miss {d c : Int} {rs : List Row} {i : Nat} {r : Row} (hr : rowVal d c (rs.drop i) = rowVal d c rs) (h : rs[i]? = some r) (h1 : ¬ (r.first ≤ c ∧ c ≤ r.last)) : rowVal d c (rs.drop (i + 1)) = rowVal d c rs := by
  rw [← hr, rowVal_drop h, if_neg]
  intro hh
  simp only [Row.has, Bool.and_eq_true, decide_eq_true_eq] at hh
  exact h1 hh

/-- the width of a code by the first of the rows that holds it, if any -/
def rowOpt (c : Int) : List Row → Option Int
  | [] => none
  | r :: rs => if r.has c then some (r.at c) else rowOpt c rs
theorem rowOpt_val (d c : Int) : ∀ rs : List Row, (rowOpt c rs).getD d = rowVal d c rs
  | [] => rfl
  | r :: rs => by
    simp only [rowOpt, rowVal]
    split
    · rfl
    · exact rowOpt_val d c rs
/-- a made dict of ints, by what it tells of each int -/
def HeldIs (prog : Program) (w : World) (o : Obj) (b : Nat) (f : Int → Option Int) : Prop :=
  ∃ (kvs : List (Int × Value)) (Dd : List (PyData × PyData)), o.IsDictOf (intKind prog w) kvs ∧ PyProof.V.FlatPairs PyData.int kvs Dd ∧ Dd.length ≤ b ∧ ∀ c : Int, PySem.Spec.lookup (.int c) Dd = (f c).map .int
theorem HeldIs.cong {prog : Program} {w : World} {o : Obj} {b : Nat} {f g : Int → Option Int} (h : HeldIs prog w o b f) (e : ∀ c, f c = g c) : HeldIs prog w o b g := by
  obtain ⟨kvs, Dd, h1, h2, h3, h4⟩ := h
  exact ⟨kvs, Dd, h1, h2, h3, fun c => by rw [h4 c, e c]⟩
theorem HeldIs.mono {prog : Program} {w : World} {o : Obj} {b b' : Nat} {f : Int → Option Int} (h : HeldIs prog w o b f) (e : b ≤ b') : HeldIs prog w o b' f := by
  obtain ⟨kvs, Dd, h1, h2, h3, h4⟩ := h
  exact ⟨kvs, Dd, h1, h2, Nat.le_trans h3 e, h4⟩
/-- between two turns of the inner loop: j codes of the row are told -/
def rowUpTo (r : Row) (old : Int → Option Int) (j : Nat) (c : Int) : Option Int := if r.first ≤ c ∧ c < r.first + (j : Int) then some (r.at c) else old c
theorem held_put {prog : Program} {w : World} {o' : Obj} {Dd : List (PyData × PyData)} {b j : Nat} {r : Row} {old : Int → Option Int} {x k : Int} {kvs' : List (Int × Value)}
    (hd' : o'.IsDictOf (intKind prog w) kvs') (hf' : PyProof.V.FlatPairs PyData.int kvs' (PyProof.V.putD (.int k) (.int x) Dd)) (hlen : Dd.length ≤ b) (hl : ∀ c : Int, PySem.Spec.lookup (.int c) Dd = (rowUpTo r old j c).map .int) (hk : k = r.first + (j : Int)) (hx : x = r.at k) :
    HeldIs prog w o' (b + 1) (rowUpTo r old (j + 1)) := by
  refine ⟨_, _, hd', hf', Nat.le_trans (PyProof.V.putD_length_le ..) (Nat.add_le_add_right hlen 1), fun c => ?_⟩
  rw [lookup_putD_int, hl c]
  unfold rowUpTo
  by_cases hc : c = k
  · subst hc
    rw [if_pos rfl, if_pos (by omega), hx]
    rfl
  · rw [if_neg hc]
    by_cases h1 : r.first ≤ c ∧ c < r.first + (j : Int)
    · rw [if_pos h1, if_pos (by omega)]
    · rw [if_neg h1, if_neg (by omega)]
theorem rowOpt_drop {c : Int} {rs : List Row} {i : Nat} {r : Row} (h : rs[i]? = some r) : rowOpt c (rs.drop i) = if r.has c then some (r.at c) else rowOpt c (rs.drop (i + 1)) := by
  obtain ⟨hi, e⟩ := List.getElem?_eq_some_iff.mp h
  rw [List.drop_eq_getElem_cons hi, e]
  rfl
theorem rowUpTo_all {r : Row} {c : Int} {rs : List Row} {i n : Nat} (h : rs[i]? = some r) (hn : (n : Int) = r.last + 1 - r.first) : rowUpTo r (fun c => rowOpt c (rs.drop (i + 1))) n c = rowOpt c (rs.drop i) := by
  rw [rowOpt_drop h]
  unfold rowUpTo Row.has
  by_cases h1 : r.first ≤ c ∧ c < r.first + (n : Int)
  · rw [if_pos h1, if_pos (by simp only [Bool.and_eq_true, decide_eq_true_eq]; omega)]
  · rw [if_neg h1, if_neg (by simp only [Bool.and_eq_true, decide_eq_true_eq]; omega)]
theorem rev_get {α : Type} {vs : List α} {i : Nat} {v : α} (h : vs.reverse[i]? = some v) : i < vs.length ∧ vs[vs.length - 1 - i]? = some v := by
  have hi : i < vs.reverse.length := (List.getElem?_eq_some_iff.mp h).1
  rw [List.length_reverse] at hi
  rw [List.getElem?_reverse hi] at h
  exact ⟨hi, h⟩

/-- a row of glyphs: the codes' length, low, high, the glyph of low -/
structure Cid where
  len : Int
  low : Int
  high : Int
  glyph : Int
structure Cid.Ok (c : Cid) : Prop where
  len : 1 ≤ c.len ∧ c.len ≤ 2
  low : 0 ≤ c.low ∧ c.low < 12
  high : c.low ≤ c.high ∧ c.high ≤ c.low + 8
  glyph : 0 ≤ c.glyph ∧ c.glyph < 12
def CidAt (D : List (Addr × Obj)) (v : Value) (c : Cid) : Prop :=
  ∃ (T : Addr) (n : Nat) (t1 t2 t3 t4 : Tok), v = .ref T ∧ (T, tupObj [.int c.len t1, .int c.low t2, .int c.high t3, .int c.glyph t4] n) ∈ D
def CidsAt (D : List (Addr × Obj)) (vs : List Value) (cs : List Cid) : Prop :=
  vs.length = cs.length ∧ ∀ (i : Nat) (v : Value), vs[i]? = some v → ∃ c, cs[i]? = some c ∧ CidAt D v c
theorem CidAt.mono {D D' : List (Addr × Obj)} (h : ∀ p ∈ D, p ∈ D') {v : Value} {c : Cid} (x : CidAt D v c) : CidAt D' v c := by
  obtain ⟨T, n, t1, t2, t3, t4, e, hm⟩ := x
  exact ⟨T, n, t1, t2, t3, t4, e, h _ hm⟩
theorem CidsAt.mono {D D' : List (Addr × Obj)} (h : ∀ p ∈ D, p ∈ D') {vs : List Value} {cs : List Cid} (x : CidsAt D vs cs) : CidsAt D' vs cs :=
  ⟨x.1, fun i v hv => by obtain ⟨c, e, y⟩ := x.2 i v hv; exact ⟨c, e, y.mono h⟩⟩
theorem CidsAt.nil (D : List (Addr × Obj)) : CidsAt D [] [] := ⟨rfl, fun i v h => by simp at h⟩
theorem CidsAt.snoc {D : List (Addr × Obj)} {vs : List Value} {cs : List Cid} {v : Value} {c : Cid} (x : CidsAt D vs cs) (y : CidAt D v c) : CidsAt D (vs ++ [v]) (cs ++ [c]) := by
  refine ⟨by simp [x.1], fun i u hu => ?_⟩
  by_cases hi : i < vs.length
  · rw [List.getElem?_append_left hi] at hu
    obtain ⟨d, e, z⟩ := x.2 i u hu
    exact ⟨d, by rw [List.getElem?_append_left (x.1 ▸ hi)]; exact e, z⟩
  · have hl : i < (vs ++ [v]).length := (List.getElem?_eq_some_iff.mp hu).1
    rw [List.length_append, List.length_singleton] at hl
    have e : i = vs.length := by omega
    subst e
    rw [List.getElem?_append_right (Nat.le_refl _), Nat.sub_self] at hu
    simp only [List.getElem?_cons_zero, Option.some.injEq] at hu
    subst hu
    exact ⟨c, by rw [x.1]; simp, y⟩
/-- a block of the ledger that bears a list of rows of glyphs -/
def CidsBlk (CL : Addr) (D : List (Addr × Obj)) (cs : List Cid) : Prop :=
  ∃ (vs : List Value) (k : Nat), (CL, listOf vs.toArray k) ∈ D ∧ CidsAt D vs cs ∧ cs.length ≤ 3 ∧ ∀ c ∈ cs, c.Ok
def Cid.has (c : Cid) (p0 p1 : Int) : Bool := decide (c.len = p0) && (decide (c.low ≤ p1) && decide (p1 ≤ c.high))
def cidFold (p0 p1 : Int) : Int → List Cid → Int
  | f, [] => f
  | f, c :: cs => cidFold p0 p1 (if c.has p0 p1 then c.glyph + p1 - c.low else f) cs
theorem cidFold_drop {p0 p1 f : Int} {cs : List Cid} {i : Nat} {c : Cid} (h : cs[i]? = some c) : cidFold p0 p1 f (cs.drop i) = cidFold p0 p1 (if c.has p0 p1 then c.glyph + p1 - c.low else f) (cs.drop (i + 1)) := by
  obtain ⟨hi, e⟩ := List.getElem?_eq_some_iff.mp h
  rw [List.drop_eq_getElem_cons hi, e]
  rfl
theorem cidFold_hit {p0 p1 f x : Int} {cs : List Cid} {i : Nat} {c : Cid} (h : cs[i]? = some c) (hf : cidFold p0 p1 f (cs.drop i) = x) (h1 : c.len = p0) (h2 : c.low ≤ p1) (h3 : p1 ≤ c.high) : cidFold p0 p1 (c.glyph + p1 - c.low) (cs.drop (i + 1)) = x := by
  rw [← hf, cidFold_drop h, if_pos]
  simp [Cid.has, h1, h2, h3]
theorem cidFold_miss {p0 p1 f x : Int} {cs : List Cid} {i : Nat} {c : Cid} (h : cs[i]? = some c) (hf : cidFold p0 p1 f (cs.drop i) = x) (h1 : ¬ (c.len = p0 ∧ c.low ≤ p1 ∧ p1 ≤ c.high)) : cidFold p0 p1 f (cs.drop (i + 1)) = x := by
  rw [← hf, cidFold_drop h, if_neg]
  intro hh
  simp only [Cid.has, Bool.and_eq_true, decide_eq_true_eq] at hh
  exact h1 hh

theorem strsAre_append : ∀ {vs ws : List Value} {xs ys : List Str}, StrsAre vs xs → StrsAre ws ys → StrsAre (vs ++ ws) (xs ++ ys) := by
  intro vs ws xs ys h k
  induction h with
  | nil => exact k
  | cons x t _ ih => exact .cons x t ih
/-- a comprehension over a range whose elements are strs, and which changes nothing -/
theorem comp_strs {prog : Program} {w : World} {A : Around} {h₀ : Heap} {L : Addr} {m : Str → Option Value} {env : Env} {elt : Expr} {x : Str} {scope : Scope} {cl : List (Str × Addr)} {s : Shared} {S : List (Addr × Obj) → Prop} {Fin : List Value → List (Addr × Obj) → Prop} {news : List (Addr × Obj)} {n : Nat} {a : Int} (f : Int → Str)
    (turn : ∀ (i : Nat) t I oI C oC D m₂ ys h tk (E' : Value → Shared → Prop), i < n → LCg.NsObj oC m₂ → m₂ x = some (.int (a + (i : Int)) t) → Fr h₀ L h m → News h₀ L h ((I, oI) :: (C, oC) :: (D, LCg.lst ys) :: news) → LCg.Off3 I C D news → ((@Ne Nat I C) ∧ (@Ne Nat I D) ∧ (@Ne Nat C D)) →
      wpAny (model prog w) A (eval elt (compEnvC scope cl C env)) (LCg.CompEnd h₀ L m { s with heap := h, toks := tk } I oI C oC D (LCg.lst ys) S (ElIs news fun y => ∃ t', y = .str (f (a + (i : Int))) t')) E' { s with heap := h, toks := tk })
    (fin : ∀ ys, StrsAre ys ((List.range n).map fun (j : Nat) => f (a + (j : Int))) → Fin ys news) : LCg.CompRest prog w A h₀ L m env elt x scope cl s S (fun i v => ∃ t, v = .int (a + (i : Int)) t) Fin n 0 [] news := by
  refine comp_inv (fun i ys nw => nw = news ∧ StrsAre ys ((List.range i).map fun (j : Nat) => f (a + (j : Int)))) ⟨rfl, .nil⟩ ?_ ?_
  · rintro i v I oI C oC D m₂ ys nw h tk E' hin ⟨t, rfl⟩ ⟨rfl, hys⟩ hC hx F N off ne
    refine wpAny_mono (turn i t I oI C oC D m₂ ys h tk E' hin hC hx F N off ne) (fun y s₂ hq => ?_) fun _ _ e => e
    obtain ⟨h', tk', nw', e, F', N', off', hS, hn, t', rfl⟩ := hq
    subst hn
    refine ⟨h', tk', nw', e, F', N', off', hS, rfl, ?_⟩
    rw [List.range_succ, List.map_append]
    exact strsAre_append hys (.cons _ t' .nil)
  · rintro ys nw ⟨rfl, hys⟩
    exact fin ys hys

theorem add_strs {prog : Program} {w : World} {A : Around} {E : Value → Shared → Prop} {s : Shared} {h₀ : Heap} {L a b : Addr} {m : Str → Option Value} {news : List (Addr × Obj)} {vs ws : List Value} {xs ys : List Str} {Q : Value → Shared → Prop}
    (F : Fr h₀ L s.heap m) (N : News h₀ L s.heap news) (ha : s.heap.IsList a vs.toArray) (hb : s.heap.IsList b ws.toArray) (hi : StrsAre vs xs) (hj : StrsAre ws ys)
    (h : ∀ D us h', Fr h₀ L h' m → News h₀ L h' ((D, listOf (List.toArray us) 0) :: news) → (∀ p ∈ news, p.1 < D) → StrsAre us (xs ++ ys) → Q (.ref D) { s with heap := h' })
    (hz : xs.length + ys.length ≤ sizeLine) : wpAny (model prog w) A (binaryOp .Add (.ref a) (.ref b)) Q E s :=
  kmk_add_lit (zs := vs ++ ws) F N ha hb rfl (fun D h' F' N' l1 => h D (vs ++ ws) h' F' N' l1 (strsAre_append hi hj)) (by
    show vs.toArray.toList.length + ws.toArray.toList.length ≤ sizeLine
    rw [List.toList_toArray, List.toList_toArray, hi.len_eq, hj.len_eq]
    exact hz)
theorem strs_words {l : List (Str × Tok)} {x : Str} (e : l.map (·.1) = Txt.words x) (a : StrsAre (strValues l) (l.map (·.1))) : StrsAre (strValues l) (Txt.words x) := e ▸ a

theorem isStrOf_at (k : Str) : ∀ {vs : List Value} {xs : List Str}, StrsAre vs xs → ∀ (j : Nat) (h1 : j < vs.length) (h2 : j < xs.length), isStrOf k vs[j] = (xs[j] == k) := by
  intro vs xs h
  induction h with
  | nil => intro j h1; exact absurd h1 (Nat.not_lt_zero _)
  | cons x t _ ih =>
    intro j h1 h2
    cases j with
    | zero => rfl
    | succ j => exact ih j (Nat.lt_of_succ_lt_succ h1) (Nat.lt_of_succ_lt_succ h2)
theorem findIdx_lt {xs : List Str} {k : Str} (hk : xs.any (· == k) = true) : xs.findIdx (· == k) < xs.length := List.findIdx_lt_length_of_exists (by simpa using hk)
theorem index_strs {prog : Program} {w : World} {A : Around} {E : Value → Shared → Prop} {s : Shared} {h₀ : Heap} {L D : Addr} {news : List (Addr × Obj)} {vs : List Value} {xs : List Str} {n : Nat} {k : Str} {t : Tok} {Q : Value → Shared → Prop}
    (N : News h₀ L s.heap news) (hm : (D, listOf vs.toArray n) ∈ news) (hi : StrsAre vs xs) (hz : xs.length ≤ 10000) (hk : xs.any (· == k) = true)
    (h : Q (.int (xs.findIdx (· == k) : Nat) s.toks) { s with toks := s.toks + 1 }) : wpAny (model prog w) A (call (.builtin "list.index") [.ref D, .str k t]) Q E s := by
  have hl : vs.length = xs.length := hi.len_eq
  have hlt : xs.findIdx (· == k) < xs.length := List.findIdx_lt_length_of_exists (by simpa using hk)
  refine call_meets PySem.F.slot_list_index ⟨_, (N _ hm).1, rfl⟩ PySem.F.entry_list_index (PySem.F.args_list_index_2 _ _)
    (MeetsSeq.list_index D vs.toArray n (.str k t) (isStrOf k) (fun y hy => eq_isStrOf k t hi y (by simpa using hy)) (xs.findIdx (· == k)) (by simpa [hl] using hlt) (by omega) ?_ ?_) ⟨(N _ hm).1, h⟩
  · show isStrOf k vs[xs.findIdx (· == k)] = true
    rw [isStrOf_at k hi _ (by omega) hlt]
    exact List.findIdx_getElem (w := hlt)
  · intro j hj hjl
    have hj' : j < vs.length := by simpa using hj
    show isStrOf k vs[j] = false
    rw [isStrOf_at k hi j hj' (by omega)]
    exact List.not_of_lt_findIdx (p := (· == k)) hjl
theorem mem_of_lookup : ∀ {l : Frag} {a : Nat} {b : Obj}, l.lookup a = some b → (a, b) ∈ l
  | [], _, _, h => by cases h
  | (k, v) :: r, a, b, h => by
    rw [List.lookup_cons] at h
    cases e : a == k with
    | true =>
      rw [e] at h
      simp only [Option.some.injEq] at h
      rw [beq_iff_eq.mp e, h]
      exact .head _
    | false =>
      rw [e] at h
      exact .tail _ (mem_of_lookup h)
/-- a part of what is written out stands where the whole stands -/
theorem frag_sub {A B : Frag} {h : Heap} (e : A.map (fun p => B.lookup p.1) = A.map fun p => some p.2) (x : B.In h) : A.In h := fun a o ha =>
  x a o (List.map_inj_left.mp e (a, o) (mem_of_lookup ha))
end Mine
namespace Mine

local macro_rules | `(tactic| k_all) => `(tactic| assumption)
set_option maxHeartbeats 4000000 in
theorem draw_call {prog q0 : Program} {w : World} {loose : List Str} {mean : ExcName → Option Value} {mg mb : Str → Option Value} {gd : Option (List Code)}
    {cn : Str} {cs : Scope} {a : Addr} {ccd : Value} {cl : List (Str × Addr)} {outer : List Env} {A₀ : Around} {base h₀ : Heap} {L : Addr} {m : Str → Option Value} {s : Shared}
    {P C : Addr} {st pl lim : Int} {t1 t2 t3 : Tok} {n n2 : Nat} {vs : List Value} {ns : List Int} {R : List (Addr × Obj)} {Q E : Value → Shared → Prop}
    (B : Below A₀ base outer h₀) (F : Fr h₀ L s.heap m) (X : (K0 w.params).In h₀)
    (N : News h₀ L s.heap ((P, listOf [.ref C, .int st t1, .int pl t2].toArray n) :: (C, listOf vs.toArray n2) :: R))
    (hi : IntsAre vs ns) (T : Top q0 loose mean mg mb h₀) (hk : cs.kind = .function)
    (hPC : @Ne Nat P C) (hPR : ∀ p ∈ R, p.1 ≠ P) (hCR : ∀ p ∈ R, p.1 ≠ C)
    (hst : 0 ≤ st ∧ st < 2147483647) (hpl : 0 ≤ pl ∧ pl < 100000) (hlim : 1 ≤ lim ∧ lim ≤ 1000) (hlen : ns.length ≤ 63)
    (ret : ∀ v t st' t1' t2' n' n2' vs' ns' h' tk', 0 ≤ v → v < lim → 0 ≤ st' → st' < 2147483647 → IntsAre vs' ns' → ns'.length ≤ 63 → Fr h₀ L h' m →
       News h₀ L h' ((P, listOf [.ref C, .int st' t1', .int (pl + 1) t2'].toArray n') :: (C, listOf vs'.toArray n2') :: R) → Q (.int v t) { s with heap := h', toks := tk' }) :
    wpAny (model prog w) (topA gd (envX cn cs L a ccd cl) outer) (call (.ref 317) [.ref P, .int lim t3] []) Q E s := by
  have hfill : PySem.Challenge.rw_og0167_01 = PySem.Challenge.rw_og0167_01 → K0 = K0 → True := by k_fill; intros; trivial
  refine wpAny_call ?_
  k_dflt cell_enter
  k_steps
  all_goals (refine' ret _ _ _ _ _ _ _ _ _ _ _ ?a ?b ?c ?d ?e ?f ?g ?h; (case h => k_asm); (case g => k_asm); (case e => assumption); (case f => first | omega | (simp only [List.length_set]; omega)); (case a => exact fmod_lo _ (by omega)); (case b => exact fmod_hi _ (by omega)); (case c => first | omega | exact fmod_lo _ (by omega)); (case d => first | omega | exact fmod_hi _ (by omega)))

/-- the pot's two objects, after at most b draws -/
def Pot (C : Addr) (b : Nat) (oP oC : Obj) : Prop :=
  ∃ (st pl : Int) (t1 t2 : Tok) (n n2 : Nat) (vs : List Value) (ns : List Int), oP = listOf [.ref C, .int st t1, .int pl t2].toArray n ∧ oC = listOf vs.toArray n2 ∧ IntsAre vs ns ∧ ns.length ≤ 63 ∧ 0 ≤ st ∧ st < 2147483647 ∧ 0 ≤ pl ∧ pl ≤ (b : Int)
theorem Pot.mono {C : Addr} {b b' : Nat} {oP oC : Obj} (h : Pot C b oP oC) (hb : b ≤ b') : Pot C b' oP oC := by
  obtain ⟨st, pl, t1, t2, n, n2, vs, ns, e1, e2, hi, hl, h1, h2, h3, h4⟩ := h
  exact ⟨st, pl, t1, t2, n, n2, vs, ns, e1, e2, hi, hl, h1, h2, h3, by omega⟩

theorem draw_use {prog q0 : Program} {w : World} {loose : List Str} {mean : ExcName → Option Value} {mg mb : Str → Option Value} {A : Around} {gd : Option (List Code)}
    {cn : Str} {cs : Scope} {a : Addr} {ccd : Value} {cl : List (Str × Addr)} {outer : List Env} {A₀ : Around} {base h₀ : Heap} {L : Addr} {m : Str → Option Value} {s : Shared}
    {P C : Addr} {oP oC : Obj} {b : Nat} {lim : Int} {t3 : Tok} {news R : List (Addr × Obj)} {Q E : Value → Shared → Prop}
    (B : Below A₀ base outer h₀) (F : Fr h₀ L s.heap m) (X : (K0 w.params).In h₀) (N : News h₀ L s.heap news) (T : Top q0 loose mean mg mb h₀) (hk : cs.kind = .function)
    (po : Pot C b oP oC) (hP : (P, oP) ∈ news) (hC : (C, oC) ∈ news) (hPC : @Ne Nat P C) (rem : Rem P C news R) (hb : b < 100000) (hlim : 1 ≤ lim ∧ lim ≤ 1000)
    (hh : A.handled = none) (hf : A.frames = some (envX cn cs L a ccd cl :: outer)) (hd : A.depth ≤ 340) (hu : A.units ≤ 60) (hg : A.guards = gd)
    (ret : ∀ v t oP' oC' h' tk', 0 ≤ v → v < lim → Pot C (b + 1) oP' oC' → Fr h₀ L h' m → News h₀ L h' ((P, oP') :: (C, oC') :: R) → Q (.int v t) { s with heap := h', toks := tk' }) :
    wpAny (model prog w) A (call (.ref 317) [.ref P, .int lim t3] []) Q E s := by
  obtain ⟨st, pl, t1, t2, n, n2, vs, ns, rfl, rfl, hi, hl, h1, h2, h3, h4⟩ := po
  obtain ⟨r1, r2, r3⟩ := rem.facts
  have N' : News h₀ L s.heap ((P, listOf [.ref C, .int st t1, .int pl t2].toArray n) :: (C, listOf vs.toArray n2) :: R) := fun p hp => by
    rcases List.mem_cons.mp hp with rfl | hp
    · exact N _ hP
    · rcases List.mem_cons.mp hp with rfl | hp
      · exact N _ hC
      · exact N _ (r1 _ hp)
  refine wpAny_wider (A' := topA gd (envX cn cs L a ccd cl) outer) (draw_call B F X N' hi T hk hPC r2 r3 ⟨h1, h2⟩ ⟨h3, by omega⟩ hlim hl ?_) hh hd hf hg hu
  intro v t st' t1' t2' n' n2' vs' ns' h' tk' hv0 hv1 hs0 hs1 hi' hl' F' N'
  exact ret v t _ _ h' tk' hv0 hv1 ⟨st', pl + 1, t1', t2', n', n2', vs', ns', rfl, rfl, hi', hl', hs0, hs1, by omega, by omega⟩ F' N'

/-- what a drawing element hands on -/
def DrawEl (P C : Addr) (b : Nat) (lim : Int) (R : List (Addr × Obj)) (y : Value) (nw : List (Addr × Obj)) : Prop :=
  ∃ oP oC k t, nw = (P, oP) :: (C, oC) :: R ∧ Pot C b oP oC ∧ y = .int k t ∧ 0 ≤ k ∧ k < lim
/-- a comprehension over a range, each of whose elements is one draw -/
theorem comp_draws {prog : Program} {w : World} {A : Around} {h₀ : Heap} {L : Addr} {m : Str → Option Value} {env : Env} {elt : Expr} {x : Str} {scope : Scope} {cl : List (Str × Addr)} {s : Shared} {S : List (Addr × Obj) → Prop} {Fin : List Value → List (Addr × Obj) → Prop} {R : List (Addr × Obj)} {P C : Addr} {oP oC : Obj} {b n : Nat} {a lim : Int}
    (po : Pot C b oP oC)
    (turn : ∀ i t I oI K oK D m₂ ys oP oC h tk (E' : Value → Shared → Prop), i < n → LCg.NsObj oK m₂ → m₂ x = some (.int (a + (i : Int)) t) → Pot C (b + i) oP oC → Fr h₀ L h m → News h₀ L h ((I, oI) :: (K, oK) :: (D, LCg.lst ys) :: (P, oP) :: (C, oC) :: R) → LCg.Off3 I K D ((P, oP) :: (C, oC) :: R) → ((@Ne Nat I K) ∧ (@Ne Nat I D) ∧ (@Ne Nat K D)) →
      wpAny (model prog w) A (eval elt (compEnvC scope cl K env)) (LCg.CompEnd h₀ L m { s with heap := h, toks := tk } I oI K oK D (LCg.lst ys) S (DrawEl P C (b + i + 1) lim R)) E' { s with heap := h, toks := tk })
    (fin : ∀ ys ks oP' oC', IntsAre ys ks → ks.length = n → (∀ k ∈ ks, 0 ≤ k ∧ k < lim) → Pot C (b + n) oP' oC' → Fin ys ((P, oP') :: (C, oC') :: R)) : LCg.CompRest prog w A h₀ L m env elt x scope cl s S (fun i v => ∃ t, v = .int (a + (i : Int)) t) Fin n 0 [] ((P, oP) :: (C, oC) :: R) := by
  refine comp_inv (fun i ys nw => ∃ oP oC ks, nw = (P, oP) :: (C, oC) :: R ∧ Pot C (b + i) oP oC ∧ IntsAre ys ks ∧ ks.length = i ∧ ∀ k ∈ ks, 0 ≤ k ∧ k < lim) ⟨_, _, [], rfl, po, .nil, rfl, fun _ h => (nomatch h)⟩ ?_ ?_
  · rintro i v I oI K oK D m₂ ys nw h tk E' hin ⟨t, rfl⟩ ⟨oP, oC, ks, rfl, po, hks, hl, hb⟩ hC hx F N off ne
    refine wpAny_mono (turn i t I oI K oK D m₂ ys oP oC h tk E' hin hC hx po F N off ne) (fun y s₂ hq => ?_) fun _ _ e => e
    obtain ⟨h', tk', nw', e, F', N', off', hS, oP', oC', k', t', rfl, po', rfl, h1, h2⟩ := hq
    refine ⟨h', tk', _, e, F', N', off', hS, oP', oC', ks ++ [k'], rfl, po', IntsAre.append hks (.cons k' t' .nil), by simp [hl], fun k hk => ?_⟩
    rcases List.mem_append.mp hk with hk | hk
    · exact hb k hk
    · rw [List.mem_singleton.mp hk]; exact ⟨h1, h2⟩
  · rintro ys nw ⟨oP, oC, ks, rfl, po, hks, hl, hb⟩
    exact fin ys ks oP oC hks hl hb po
end Mine
namespace Mine
section
local macro_rules | `(tactic| walk_at "exec Assign cons ListComp") => `(tactic| (k_here; k_dflt (refine LCg.Assign_ListComp_U (F₀ := by k_asm) (by rfl) (by with_unfolding_all rfl) (by with_unfolding_all rfl) (by decide) (by rfl) (by decide) (by rfl) (by rfl) (by rfl) ?_)))
local macro_rules | `(tactic| walk_at "eval ListComp") => `(tactic| (k_here; k_dflt (refine LCg.ListComp_U (F₀ := by k_asm) (by with_unfolding_all rfl) (by decide) (by rfl) (by decide) (by rfl) ?_)))
local macro_rules | `(tactic| walk_at "CompSrc") => `(tactic| (k_here; (try kcf_lens); k_dflt (refine LCg.CompSrc.ledger (by rfl) (by k_asm) (by k_asm) (by k_mem) (by kcf_size) ?_; intro g'; (refine comp_ints (by first | assumption | l_ints) (fun k' t' I' oI' C' oC' D' m' ys' h' tk' E' hC' hx' F' N' off' ne' => ?_) (fun ys' ks' hk' hl' => ?_)); kcf_last)))
local macro_rules | `(tactic| walk_at "CompEnd") => `(tactic| (refine LCg.CompEnd.intro (by assumption) (by assumption) _ (fun _ hp => hp) (by assumption) (by lcg_src) (ElIs.mk ⟨_, _, rfl⟩)))
set_option maxHeartbeats 4000000 in
theorem pot_call {prog q0 : Program} {w : World} {loose : List Str} {mean : ExcName → Option Value} {mg mb : Str → Option Value} {gd : Option (List Code)}
    {cn : Str} {cs : Scope} {a : Addr} {ccd : Value} {cl : List (Str × Addr)} {outer : List Env} {A₀ : Around} {base h₀ : Heap} {L : Addr} {m : Str → Option Value} {s : Shared}
    {S : Addr} {vs : List Value} {ns : List Int} {R : List (Addr × Obj)} {Q E : Value → Shared → Prop}
    (B : Below A₀ base outer h₀) (F : Fr h₀ L s.heap m) (X : (K0 w.params).In h₀)
    (N : News h₀ L s.heap R) (hS : base.IsList S vs.toArray)
    (hi : IntsAre vs ns) (T : Top q0 loose mean mg mb h₀) (hk : cs.kind = .function) (hlen : ns.length ≤ 63)
    (ret : ∀ P C st t1 t2 n n2 vs' ns' h' tk', 0 ≤ st → st < 2147483647 → IntsAre vs' ns' → ns'.length ≤ 63 → @Ne Nat P C → (∀ p ∈ R, p.1 ≠ P) → (∀ p ∈ R, p.1 ≠ C) → Fr h₀ L h' m →
       News h₀ L h' ((P, listOf [.ref C, .int st t1, .int 0 t2].toArray n) :: (C, listOf vs'.toArray n2) :: R) → Q (.ref P) { s with heap := h', toks := tk' }) :
    wpAny (model prog w) (topA gd (envX cn cs L a ccd cl) outer) (call (.ref 310) [.ref S] []) Q E s := by
  have hfill : PySem.Challenge.rw_og0167_01 = PySem.Challenge.rw_og0167_01 → K0 = K0 → True := by k_fill; intros; trivial
  k_with "pyIter ref" => k_state (fun _ st => 0 ≤ st ∧ st < 2147483647) "state"
  refine wpAny_call ?_
  k_dflt cell_enter
  k_steps
  rename _ ∧ _ ∧ LCg.Off1 _ R => o1
  rename _ ∧ _ ∧ _ ∧ AllLt _ R => l1
  rename News h₀ L _ _ => kN
  exact ret _ _ _ _ _ _ _ _ _ _ _ (by assumption) (by assumption) (by assumption) (by simp only [List.length_take] at *; omega) (by omega) (lt_off (allLt_mem l1.2.2.2)) (off1_mem o1.2.2) (by k_asm) (news_drop2 kN)
end
end Mine
namespace Mine
/-- top / 10^places, said anew with fewer places -/
def DecRel (T0 P0 t p : Int) : Prop := T0 = t * 10 ^ (P0 - p).toNat
theorem decRel_start (T0 P0 : Int) : DecRel T0 P0 T0 P0 := by simp [DecRel]
theorem decRel_step {T0 P0 t p : Int} (h : DecRel T0 P0 t p) (hp : p ≤ P0) (h0 : Int.fmod t 10 = 0) : DecRel T0 P0 (Int.fdiv t 10) (p - 1) := by
  unfold DecRel at *
  have e : (P0 - (p - 1)).toNat = (P0 - p).toNat + 1 := by omega
  have e2 : t = Int.fdiv t 10 * 10 := by have := fdiv_fmod_facts t 10; omega
  rw [e, Int.pow_succ, h]
  conv => lhs; rw [e2]
  rw [Int.mul_assoc, Int.mul_comm 10]
theorem decInv_step {T0 P0 t p : Int} (h1 : 0 ≤ t) (h2 : t ≤ T0) (h4 : p ≤ P0) (h : DecRel T0 P0 t p) (hp : 0 < p) (h0 : Int.fmod t 10 = 0) : 0 ≤ Int.fdiv t 10 ∧ Int.fdiv t 10 ≤ T0 ∧ 0 ≤ p - 1 ∧ p - 1 ≤ P0 ∧ DecRel T0 P0 (Int.fdiv t 10) (p - 1) := by
  have := fdiv_fmod_facts t 10
  exact ⟨by omega, by omega, by omega, by omega, decRel_step h h4 h0⟩
theorem decInv_start {T0 P0 : Int} (h : 0 ≤ T0) (h1 : 0 ≤ P0) : 0 ≤ T0 ∧ T0 ≤ T0 ∧ 0 ≤ P0 ∧ P0 ≤ P0 ∧ DecRel T0 P0 T0 P0 := ⟨h, Int.le_refl _, h1, Int.le_refl _, decRel_start _ _⟩
abbrev decDict (w : World) (k1 k2 : Tok) (t : Int) (u1 : Tok) (p : Int) (u2 : Tok) : Obj :=
  dictOf [⟨PyData.keyHash w.params (Str.ofString "top"), .str (Str.ofString "top") k1, .int t u1⟩, ⟨PyData.keyHash w.params (Str.ofString "places"), .str (Str.ofString "places") k2, .int p u2⟩] 2
section
set_option maxHeartbeats 4000000 in
theorem decimal_call {prog q0 : Program} {w : World} {loose : List Str} {mean : ExcName → Option Value} {mg mb : Str → Option Value} {gd : Option (List Code)}
    {cn : Str} {cs : Scope} {a : Addr} {ccd : Value} {cl : List (Str × Addr)} {outer : List Env} {A₀ : Around} {base h₀ : Heap} {L : Addr} {m : Str → Option Value} {s : Shared}
    {top places : Int} {t1 t2 : Tok} {R : List (Addr × Obj)} {Q E : Value → Shared → Prop}
    (B : Below A₀ base outer h₀) (F : Fr h₀ L s.heap m) (X : (K0 w.params).In h₀)
    (N : News h₀ L s.heap R) (T : Top q0 loose mean mg mb h₀) (hk : cs.kind = .function)
    (ht : 0 ≤ top ∧ top < 100000000) (hp : 0 ≤ places ∧ places ≤ 9)
    (ret : ∀ x d k1 k2 t u1 p u2 h' tk', d < x → (∀ q ∈ R, q.1 < d) → 0 ≤ t → t ≤ top → 0 ≤ p → p ≤ places → DecRel top places t p → (p = 0 ∨ Int.fmod t 10 ≠ 0) → Fr h₀ L h' m →
       News h₀ L h' ((x, instObj 143 d) :: (d, decDict w k1 k2 t u1 p u2) :: R) → Q (.ref x) { s with heap := h', toks := tk' }) :
    wpAny (model prog w) (topA gd (envX cn cs L a ccd cl) outer) (call (.ref 143) [.int top t1, .int places t2] []) Q E s := by
  have hfill : PySem.Challenge.rw_og0167_01 = PySem.Challenge.rw_og0167_01 → K0 = K0 → True := by k_fill; intros; trivial
  k_with_none
  k_with "state" => (first | exact decInv_start (by omega) (by omega) | exact decInv_step (by omega) (by omega) (by omega) (by assumption) (by omega) (by omega))
  k_with "exec While BoolOp cons nil" => k_while (fun _ t p => 0 ≤ t ∧ t ≤ top ∧ 0 ≤ p ∧ p ≤ places ∧ DecRel top places t p) (fun _ _ p => p.toNat) "top" "places"
  k_dflt (refine' call_cls ?k1 ?k2 ?k3 ?k4 ?k5 ?k6 ?_; (case k1 => k_asm); (case k2 => k_asm); (case k3 => k_asm); (case k4 => k_is); (case k5 => k_is); (case k6 => k_is); k_whole; intro x' d' h' F' N' l1 l2; (try k_lt2 l2); (refine' code_def ?k1 ?k2 ?k3 ?k4 ?k5 ?kA ?kF ?kK ?k6 ?k7 ?k8 ?k9 ?kB ?_ ?c2 ?c3 ?c4 ?c5; (case kA => exact rfl); (case kF => exact rfl); (case kK => exact hk); (case k1 => k_asm); (case k2 => k_asm); (case k3 => k_asm); (case k4 => k_asm); (case k5 => k_asm); (case k6 => k_is); (case k7 => k_is); (case k8 => k_room); (case k9 => exact BindsTo.of_eq rfl); (case c5 => decide); (case kB => exact locs rfl); (case c2 => exact rfl); (case c3 => exact rfl); (case c4 => exact rfl); k_whole; intro g' L' h' FG' F' N' B' X' T'; (try dsimp only); (try k_lift B'); (try k_fold)))
  k_steps
  · rename News h₀ L _ _ => kN
    refine' ret _ _ _ _ _ _ _ _ _ _ l2 l1 ?a ?b ?c ?d ?e ?f ?g kN
    case e => assumption
    case g => k_asm
    all_goals omega
  · rename News h₀ L _ _ => kN
    refine' ret _ _ _ _ _ _ _ _ _ _ l2 l1 ?a2 ?b2 ?c2 ?d2 ?e2 ?f2 ?g2 kN
    case e2 => assumption
    case g2 => k_asm
    all_goals omega
end
end Mine
namespace Mine
section
local macro_rules | `(tactic| walk_at "pyIter ref") => `(tactic| (k_here; refine halt ?_))
local macro_rules | `(tactic| walk_at "exec For Tuple Name cons nil") => `(tactic| (k_here; (rename Fr _ _ _ _ => lF'); (with_unfolding_all refine' For_turns lF' ?_; k_whole)))
set_option maxHeartbeats 4000000 in
theorem widthIn_call {prog q0 : Program} {w : World} {loose : List Str} {mean : ExcName → Option Value} {mg mb : Str → Option Value} {gd : Option (List Code)}
    {cn : Str} {cs : Scope} {a : Addr} {ccd : Value} {cl : List (Str × Addr)} {outer : List Env} {A₀ : Around} {base h₀ : Heap} {L : Addr} {m : Str → Option Value} {s : Shared}
    {RL : Addr} {D : List (Addr × Obj)} {rs : List Row} {code dflt : Int} {t1 t2 : Tok} {R : List (Addr × Obj)} {Q E : Value → Shared → Prop}
    (B : Below A₀ base outer h₀) (F : Fr h₀ L s.heap m) (X : (K0 w.params).In h₀)
    (N : News h₀ L s.heap R) (T : Top q0 loose mean mg mb h₀) (hk : cs.kind = .function)
    (hD : RowsBlk RL D rs) (hDR : ∀ p ∈ D, p ∈ R) (hcode : 0 ≤ code ∧ code < 1000)
    (ret : ∀ t h' tk', Fr h₀ L h' m → News h₀ L h' R → Q (.int (rowVal dflt code rs) t) { s with heap := h', toks := tk' }) :
    wpAny (model prog w) (topA gd (envX cn cs L a ccd cl) outer) (call (.ref 251) [.ref RL, .int code t1, .int dflt t2] []) Q E s := by
  have hfill : PySem.Challenge.rw_og0167_01 = PySem.Challenge.rw_og0167_01 → K0 = K0 → True := by k_fill; intros; trivial
  k_with_none
  obtain ⟨vs, k, hRL, hrs, hlen, hok⟩ := hD
  refine wpAny_call ?_
  k_dflt cell_enter
  k_steps
  unfold Halt
  refine' iter_listJ (fun i m₁ nx => nx = R ∧ m₁ (Str.ofString "code") = some (.int code t1) ∧ m₁ (Str.ofString "default") = some (.int dflt t2) ∧ rowVal dflt code (rs.drop i) = rowVal dflt code rs) ?hh ?F ?N ?hm ?hj ?turn ?done
  case hh => rfl
  case F => k_asm
  case N => k_asm
  case hm => exact hDR _ hRL
  case hj => exact ⟨rfl, by exact rfl, by exact rfl, by rw [List.drop_zero]⟩
  case turn =>
    intro I i v m₁ nx h tk oI hI hv hk₁ hJ F₁ hoI N₁
    obtain ⟨rfl, e1, e2, hr⟩ := hJ
    obtain ⟨r, hri, T', W, n, kk, u1, u2, ws, rfl, hT, hW, hws⟩ := hrs.get i v hv
    have ok := hok r (List.mem_of_getElem? hri)
    obtain ⟨o1, o2, o3, o4, o5⟩ := ok
    have F₂ := fr_see (fr_see F₁ _ e1) (Str.ofString "default") ((if_neg (by decide)).trans e2)
    have N₂ : News _ _ h ((T', tupObj [.int r.first u1, .int r.last u2, .ref W] n) :: (W, listOf ws.toArray kk) :: (I, oI) :: nx) := fun p hp => by
      rcases List.mem_cons.mp hp with rfl | hp
      · exact N₁ _ (.tail _ (hDR _ hT))
      · rcases List.mem_cons.mp hp with rfl | hp
        · exact N₁ _ (.tail _ (hDR _ hW))
        · exact N₁ _ hp
    have hlw : 1 ≤ r.ws.length := by omega
    have hlw' : r.ws.length ≤ 5 := by omega
    clear N₁ F₁
    k_steps
    · rename News h₀ L _ _ => kN
      have e : rowVal dflt code rs = r.ws.getD (code - r.first).toNat 0 := rowVal_hit1 hr hri (by omega) (by omega) (by omega)
      rw [← e]
      exact ret _ _ _ (by k_asm) (fun p hp => kN p (.tail _ (.tail _ (.tail _ hp))))
    · rename News h₀ L _ _ => kN
      have e : rowVal dflt code rs = r.ws.getD (Int.toNat 0) 0 := rowVal_hit2 hr hri (by omega) (by omega) (by omega)
      rw [← e]
      exact ret _ _ _ (by k_asm) (fun p hp => kN p (.tail _ (.tail _ (.tail _ hp))))
    all_goals (
      rename Fr _ _ _ _ => F9
      rename News _ _ _ _ => N9
      exact ⟨_, _, _, nx, rfl, F9, fun p hp => N9 p (.tail _ (.tail _ hp)), fun p hp q hq => (by rw [List.mem_singleton.mp hq]; exact Nat.ne_of_lt (hI p hp)), hk₁, rfl, by exact rfl, by exact rfl, rowVal_miss hr hri (by omega)⟩)
  case done =>
    intro m₁ nx h tk hJ F₁ N₁
    obtain ⟨rfl, e1, e2, hr⟩ := hJ
    have F₂ := fr_see (fr_see F₁ _ e1) (Str.ofString "default") ((if_neg (by decide)).trans e2)
    clear F₁
    have e : rowVal dflt code rs = dflt := by rw [← hr, hrs.length, List.drop_length]; rfl
    k_steps
    rename News h₀ L _ _ => kN
    rw [e] at ret
    exact ret _ _ _ (by k_asm) kN
end
end Mine
namespace Mine
/-- between two turns of the outer loop of _law_in -/
def LawInJ (prog : Program) (w : World) (HD : Addr) (R0 : List (Addr × Obj)) (rs : List Row) (code dflt : Int) (t1 t2 : Tok) (i : Nat) (m : Str → Option Value) (nx : List (Addr × Obj)) : Prop :=
  ∃ oH, nx = (HD, oH) :: R0 ∧ HeldIs prog w oH (5 * i) (fun c => rowOpt c (rs.drop (rs.length - i))) ∧ m (Str.ofString "held") = some (.ref HD) ∧ m (Str.ofString "code") = some (.int code t1) ∧ m (Str.ofString "default") = some (.int dflt t2)
/-- between two turns of the inner loop -/
def LawInK (prog : Program) (w : World) (HD : Addr) (R1 : List (Addr × Obj)) (old : Int → Option Int) (r : Row) (b : Nat) (code dflt : Int) (t1 t2 u1 : Tok) (W : Addr) (j : Nat) (m : Str → Option Value) (nx : List (Addr × Obj)) : Prop :=
  ∃ oH, nx = (HD, oH) :: R1 ∧ HeldIs prog w oH (b + j) (rowUpTo r old j) ∧ m (Str.ofString "held") = some (.ref HD) ∧ m (Str.ofString "code") = some (.int code t1) ∧ m (Str.ofString "default") = some (.int dflt t2) ∧ m (Str.ofString "first") = some (.int r.first u1) ∧ m (Str.ofString "widths") = some (.ref W)
section
local macro_rules | `(tactic| walk_at "pyIter ref") => `(tactic| (k_here; refine halt ?_))
local macro_rules | `(tactic| walk_at "exec For Tuple Subscript cons nil") => `(tactic| (k_here; (rename Fr _ _ _ _ => lF'); (with_unfolding_all refine' For_turns lF' ?_; k_whole)))
local macro_rules | `(tactic| walk_at "subscriptTail Name Slice ref ref") => `(tactic| (k_here; (with_reducible show wpAny _ _ (subscriptTail _ (PySem.Expr.Slice none none (some _) _) (Value.ref _) (Value.ref _)) _ _ _); k_dflt (refine' krv_lit (zs := List.reverse _) ?F ?N ?l ?k ?e ?_ ?s ?t ?z; (case F => k_asm); (case N => k_asm); (case l => kmk_list); (case k => exact IsPart.int _ _); (case e => exact rfl); (case s => with_unfolding_all rfl); (case t => kmk_pure); (case z => (rw [PySem.sizeLine_eq]; simp only [List.size_toArray]; omega))); intro D' h' F' N' l1; (try k_lt l1); (try k_sweep)))
local macro_rules | `(tactic| walk_at "call type:range") => `(tactic| ((with_reducible show wpAny _ _ (PySem.call _ [_, _]) _ _ _); k_dflt (refine' range2_rows ?F ?N ?h; (case F => k_asm); (case N => k_asm)); intro _ _ _ _ _ _ _ _ _))
local macro_rules | `(tactic| walk_at "setItem ref int") => `(tactic| (k_here; k_dflt (refine' setItem_K PyProof.V.same_int (intKind_is _ _ _ _) ?v ?F ?N ?U ?d ?f ?_ ?z; (case F => k_asm); (case N => k_asm); (case U => k_updF); (case d => k_asm); (case f => k_asm); (case z => (rw [PySem.sizeLine_eq]; omega)); (case v => k_flat)); intro h' o' F' N' hd' hf'; (try dsimp only at N'); (try k_sweep)))
local macro_rules | `(tactic| k_all) => `(tactic| assumption)
local macro_rules | `(tactic| walk_at "UnrEndW") => `(tactic| refine halt ?_)
local macro_rules | `(tactic| walk_at "InvEndG") => `(tactic| refine halt ?_)
set_option maxHeartbeats 4000000 in
theorem lawIn_call {prog q0 : Program} {w : World} {loose : List Str} {mean : ExcName → Option Value} {mg mb : Str → Option Value} {gd : Option (List Code)}
    {cn : Str} {cs : Scope} {a : Addr} {ccd : Value} {cl : List (Str × Addr)} {outer : List Env} {A₀ : Around} {base h₀ : Heap} {L : Addr} {m : Str → Option Value} {s : Shared}
    {RL : Addr} {D : List (Addr × Obj)} {rs : List Row} {code dflt : Int} {t1 t2 : Tok} {R : List (Addr × Obj)} {Q E : Value → Shared → Prop}
    (B : Below A₀ base outer h₀) (F : Fr h₀ L s.heap m) (X : (K0 w.params).In h₀)
    (N : News h₀ L s.heap R) (T : Top q0 loose mean mg mb h₀) (hk : cs.kind = .function)
    (hD : RowsBlk RL D rs) (hDR : ∀ p ∈ D, p ∈ R) (hcode : 0 ≤ code ∧ code < 1000)
    (ret : ∀ t h' tk', Fr h₀ L h' m → News h₀ L h' R → Q (.int (rowVal dflt code rs) t) { s with heap := h', toks := tk' }) :
    wpAny (model prog w) (topA gd (envX cn cs L a ccd cl) outer) (call (.ref 336) [.ref RL, .int code t1, .int dflt t2] []) Q E s := by
  have hfill : PySem.Challenge.rw_og0167_01 = PySem.Challenge.rw_og0167_01 → K0 = K0 → True := by k_fill; intros; trivial
  k_with_none
  obtain ⟨vs, k, hRL, hrs, hlen, hok⟩ := hD
  have hvl : vs.length ≤ 3 := by rw [hrs.length]; exact hlen
  have N0 : News h₀ L s.heap ((RL, listOf vs.toArray k) :: R) := fun p hp => by
    rcases List.mem_cons.mp hp with rfl | hp
    · exact N _ (hDR _ hRL)
    · exact N _ hp
  clear N
  refine wpAny_call ?_
  k_dflt cell_enter
  k_steps
  unfold Halt
  rename News _ _ _ (_ :: (_, _) :: (RL, _) :: R) => N1
  rename _ < _ ∧ RL < _ ∧ AllLt _ R => l1
  rename RL < _ ∧ AllLt _ R => l2
  rename_i HD hx1 oH0 lo hs0 fs0 hi0 fi0 hx2 RV hx3 F9
  have N2 : News _ _ hx3 ((HD, oH0) :: (RV, listOf vs.reverse.toArray 0) :: (RL, listOf vs.toArray k) :: R) := fun p hp => N1 p (by
    rcases List.mem_cons.mp hp with rfl | hp
    · exact .tail _ (.head _)
    · rcases List.mem_cons.mp hp with rfl | hp
      · exact .head _
      · exact .tail _ (.tail _ hp))
  clear N1
  have hRH : ∀ p ∈ R, p.1 ≠ HD := lt_off (allLt_mem l2.2)
  refine' iter_listJ (LawInJ prog w HD ((RV, listOf vs.reverse.toArray 0) :: (RL, listOf vs.toArray k) :: R) rs code dflt t1 t2) ?hh ?F ?N ?hm ?hj ?turn ?done
  case hh => rfl
  case F => k_asm
  case N => exact N2
  case hm => exact .tail _ (.head _)
  case hj =>
    refine ⟨oH0, rfl, ⟨[], [], hi0, fi0, Nat.le_refl _, fun c => ?_⟩, ?_, ?_, ?_⟩
    · rw [Nat.sub_zero, List.drop_length]; rfl
    · exact rfl
    · exact rfl
    · exact rfl
  case turn =>
    intro I i v m₁ nx h tk oI hI hv hk₁ hJ F₁ hoI N₁
    obtain ⟨oH, rfl, hH, e0, e1, e2⟩ := hJ
    obtain ⟨hi, hv'⟩ := rev_get hv
    obtain ⟨r, hri, T', W, n, kk, u1, u2, ws, rfl, hT, hW, hws⟩ := hrs.get _ _ hv'
    obtain ⟨o1, o2, o3, o4, o5⟩ := hok r (List.mem_of_getElem? hri)
    have hlw : 1 ≤ r.ws.length := by omega
    have hlw' : r.ws.length ≤ 5 := by omega
    have F₂ := fr_see (fr_see (fr_see F₁ _ e0) (Str.ofString "code") ((if_neg (by decide)).trans e1)) (Str.ofString "default") ((if_neg (by decide)).trans ((if_neg (by decide)).trans e2))
    have hne : @Ne Nat I HD := Ne.symm (Nat.ne_of_lt (hI (HD, oH0) (.head _)))
    have N₂ : News _ _ h ((T', tupObj [.int r.first u1, .int r.last u2, .ref W] n) :: (W, listOf ws.toArray kk) :: (HD, oH) :: (I, oI) :: (RV, listOf vs.reverse.toArray 0) :: (RL, listOf vs.toArray k) :: R) := fun p hp => by
      rcases List.mem_cons.mp hp with rfl | hp
      · exact N₁ _ (.tail _ (.tail _ (.tail _ (.tail _ (hDR _ hT)))))
      · rcases List.mem_cons.mp hp with rfl | hp
        · exact N₁ _ (.tail _ (.tail _ (.tail _ (.tail _ (hDR _ hW)))))
        · rcases List.mem_cons.mp hp with rfl | hp
          · exact N₁ _ (.tail _ (.head _))
          · rcases List.mem_cons.mp hp with rfl | hp
            · exact N₁ _ (.head _)
            · exact N₁ _ (.tail _ (.tail _ hp))
    have hTne : @Ne Nat T' HD := hRH _ (hDR _ hT)
    have hWne : @Ne Nat W HD := hRH _ (hDR _ hW)
    clear N₁ F₁ F9 N2
    k_steps
    unfold Halt
    rename Fr _ _ _ _ => F5
    rename News _ _ _ _ => N5
    have N6 : News _ _ _ ((HD, oH) :: (T', tupObj [.int r.first u1, .int r.last u2, .ref W] n) :: (W, listOf ws.toArray kk) :: (I, oI) :: (RV, listOf vs.reverse.toArray 0) :: (RL, listOf vs.toArray k) :: R) := fun p hp => N5 p (by
      rcases List.mem_cons.mp hp with rfl | hp
      · exact .tail _ (.tail _ (.head _))
      · rcases List.mem_cons.mp hp with rfl | hp
        · exact .head _
        · rcases List.mem_cons.mp hp with rfl | hp
          · exact .tail _ (.head _)
          · exact .tail _ (.tail _ (.tail _ hp)))
    refine' iter_rangeJ (LawInK prog w HD ((T', tupObj [.int r.first u1, .int r.last u2, .ref W] n) :: (W, listOf ws.toArray kk) :: (I, oI) :: (RV, listOf vs.reverse.toArray 0) :: (RL, listOf vs.toArray k) :: R) (fun c => rowOpt c (rs.drop (rs.length - i))) r (5 * i) code dflt t1 t2 u1 W) ?hh2 ?hr2 ?hs2 ?hz2 ?F2 ?N2 ?hj2 ?turn2 ?done2
    case hh2 => rfl
    case hr2 => assumption
    case hs2 => exact small_one (by omega) (by omega) (by omega) (by omega)
    case hz2 => exact rangeSize_nat _ _
    case F2 => exact F5
    case N2 => exact N6
    case hj2 =>
      refine ⟨oH, rfl, (hH.mono (by omega)).cong fun c => ?_, ?_, ?_, ?_, ?_, ?_⟩
      · unfold rowUpTo
        rw [if_neg (by omega)]
      all_goals exact rfl
    case turn2 =>
      intro j t m₂ nx2 h2 tk2 own hj hoff hJ2 F7 N7
      obtain ⟨oH2, rfl, ⟨kvs, Dd, hd, hf, hl, hc⟩, e3, e4, e5, e6, e7⟩ := hJ2
      have F8 := fr_see (fr_see (fr_see (fr_see (fr_see F7 (Str.ofString "held") ((if_neg (by decide)).trans e3)) (Str.ofString "code") ((if_neg (by decide)).trans ((if_neg (by decide)).trans e4))) (Str.ofString "default") ((if_neg (by decide)).trans ((if_neg (by decide)).trans ((if_neg (by decide)).trans e5)))) (Str.ofString "first") ((if_neg (by decide)).trans ((if_neg (by decide)).trans ((if_neg (by decide)).trans ((if_neg (by decide)).trans e6))))) (Str.ofString "widths") ((if_neg (by decide)).trans ((if_neg (by decide)).trans ((if_neg (by decide)).trans ((if_neg (by decide)).trans ((if_neg (by decide)).trans e7)))))
      simp only [List.cons_append] at N7
      have hT1 : ∀ p ∈ R ++ own, p.1 ≠ HD := fun p hp => (List.mem_append.mp hp).elim (hRH p) fun hp => hoff p hp _ (.head _)
      generalize hT1e : R ++ own = T1 at N7 hT1
      clear F7 F5 N5 N6
      k_steps
      · unfold Halt
        subst hT1e
        rename Fr _ _ _ _ => F9
        rename News _ _ _ _ => N9
        rename Obj.IsDictOf _ _ (PySem.stored _ _ _) => hd9
        rename PyProof.V.FlatPairs _ (PySem.stored _ _ _) _ => hf9
        rename Obj => o9
        have hx : r.ws.getD (r.first + (j : Int) - r.first).toNat 0 = r.at (r.first + (j : Int)) := by
          rw [Row.at, if_pos (by omega)]
        exact ⟨_, _, _, _, (HD, o9) :: (T', tupObj [.int r.first u1, .int r.last u2, .ref W] n) :: (W, listOf ws.toArray kk) :: (I, oI) :: (RV, listOf vs.reverse.toArray 0) :: (RL, listOf vs.toArray k) :: R, rfl, F9, N9, by kcf_all, by kcf_all, hoff, _, rfl, held_put hd9 hf9 hl hc rfl hx, by exact rfl, by exact rfl, by exact rfl, by exact rfl, by exact rfl⟩
      · unfold Halt
        subst hT1e
        rename Fr _ _ _ _ => F9
        rename News _ _ _ _ => N9
        rename Obj.IsDictOf _ _ (PySem.stored _ _ _) => hd9
        rename PyProof.V.FlatPairs _ (PySem.stored _ _ _) _ => hf9
        rename Obj => o9
        have hx : r.ws.getD (Int.toNat 0) 0 = r.at (r.first + (j : Int)) := by
          rw [Row.at]
          split
          · rw [show r.first + (j : Int) - r.first = 0 by omega]
          · rfl
        exact ⟨_, _, _, _, (HD, o9) :: (T', tupObj [.int r.first u1, .int r.last u2, .ref W] n) :: (W, listOf ws.toArray kk) :: (I, oI) :: (RV, listOf vs.reverse.toArray 0) :: (RL, listOf vs.toArray k) :: R, rfl, F9, N9, by kcf_all, by kcf_all, hoff, _, rfl, held_put hd9 hf9 hl hc rfl hx, by exact rfl, by exact rfl, by exact rfl, by exact rfl, by exact rfl⟩
    case done2 =>
      intro m₂ nx2 h2 tk2 hJ2 F7 N7
      obtain ⟨oH2, rfl, hH2, e3, e4, e5, e6, e7⟩ := hJ2
      clear F5 N5 N6
      k_steps
      unfold Halt
      have ei : rs.length - i = (vs.length - 1 - i) + 1 := by rw [← hrs.length]; omega
      have ei2 : rs.length - (i + 1) = vs.length - 1 - i := by rw [← hrs.length]; omega
      refine ⟨_, _, _, (HD, oH2) :: (RV, listOf vs.reverse.toArray 0) :: (RL, listOf vs.toArray k) :: R, rfl, F7, fun p hp => N7 p ?_, fun p hp q hq => ?_, ⟨.tail _ (.head _), trivial⟩, oH2, rfl, (hH2.mono (by omega)).cong fun c => ?_, e3, e4, e5⟩
      · rcases List.mem_cons.mp hp with rfl | hp
        · exact .tail _ (.tail _ (.tail _ (.head _)))
        · rcases List.mem_cons.mp hp with rfl | hp
          · exact .head _
          · exact .tail _ (.tail _ (.tail _ (.tail _ hp)))
      · rw [List.mem_singleton.mp hq]
        rcases List.mem_cons.mp hp with rfl | hp
        · exact Ne.symm hne
        · exact Nat.ne_of_lt (hI p (.tail _ hp))
      · rw [ei, ei2]
        exact rowUpTo_all hri (by omega)
  case done =>
    intro m₁ nx h tk hJ F₁ N₁
    obtain ⟨oH, rfl, ⟨kvs, Dd, hd, hf, hl, hc⟩, e0, e1, e2⟩ := hJ
    have F₂ := fr_see (fr_see (fr_see F₁ _ e0) (Str.ofString "code") ((if_neg (by decide)).trans e1)) (Str.ofString "default") ((if_neg (by decide)).trans ((if_neg (by decide)).trans e2))
    clear F₁ F9 N2
    k_steps
    rename PyProof.V.Flat _ _ => hv9
    rename News h₀ L _ _ => kN
    have ez : rs.length - vs.reverse.length = 0 := by rw [List.length_reverse, hrs.length]; omega
    rw [hc code] at hv9
    simp only [ez, List.drop_zero] at hv9
    have ev : ((rowOpt code rs).map PyData.int).getD (PyData.int dflt) = PyData.int (rowVal dflt code rs) := by
      rw [← rowOpt_val]
      cases rowOpt code rs <;> rfl
    rw [ev] at hv9
    have hv8 := hv9 h
    cases hv8
    exact ret _ _ _ (by k_asm) (fun p hp => kN p (.tail _ (.tail _ (.tail _ hp))))
end
end Mine
namespace Mine
section
local macro_rules | `(tactic| walk_at "pyIter ref") => `(tactic| (k_here; refine halt ?_))
local macro_rules | `(tactic| walk_at "exec For Tuple Name cons nil") => `(tactic| (k_here; (rename Fr _ _ _ _ => lF'); (with_unfolding_all refine' For_turns lF' ?_; k_whole)))
local macro_rules | `(tactic| walk_at "UnrEndW") => `(tactic| refine halt ?_)
set_option maxHeartbeats 4000000 in
theorem cidOf_call {prog q0 : Program} {w : World} {loose : List Str} {mean : ExcName → Option Value} {mg mb : Str → Option Value} {gd : Option (List Code)}
    {cn : Str} {cs : Scope} {a : Addr} {ccd : Value} {cl : List (Str × Addr)} {outer : List Env} {A₀ : Around} {base h₀ : Heap} {L : Addr} {m : Str → Option Value} {s : Shared}
    {CL PR : Addr} {np : Nat} {D : List (Addr × Obj)} {cds : List Cid} {p0 p1 : Int} {t1 t2 : Tok} {R : List (Addr × Obj)} {Q E : Value → Shared → Prop}
    (B : Below A₀ base outer h₀) (F : Fr h₀ L s.heap m) (X : (K0 w.params).In h₀)
    (N : News h₀ L s.heap R) (T : Top q0 loose mean mg mb h₀) (hk : cs.kind = .function)
    (hD : CidsBlk CL D cds) (hDR : ∀ p ∈ D, p ∈ R) (hPR : (PR, tupObj [.int p0 t1, .int p1 t2] np) ∈ R) (hp1 : 0 ≤ p1 ∧ p1 < 100)
    (ret : ∀ t h' tk', 0 ≤ cidFold p0 p1 0 cds → cidFold p0 p1 0 cds < 1000 → Fr h₀ L h' m → News h₀ L h' R → Q (.int (cidFold p0 p1 0 cds) t) { s with heap := h', toks := tk' }) :
    wpAny (model prog w) (topA gd (envX cn cs L a ccd cl) outer) (call (.ref 265) [.ref CL, .ref PR] []) Q E s := by
  have hfill : PySem.Challenge.rw_og0167_01 = PySem.Challenge.rw_og0167_01 → K0 = K0 → True := by k_fill; intros; trivial
  k_with_none
  obtain ⟨vs, k, hCL, ⟨hvl, hcs⟩, hlen, hok⟩ := hD
  have N0 : News h₀ L s.heap ((PR, tupObj [.int p0 t1, .int p1 t2] np) :: R) := fun p hp => by
    rcases List.mem_cons.mp hp with rfl | hp
    · exact N _ hPR
    · exact N _ hp
  clear N
  refine wpAny_call ?_
  k_dflt cell_enter
  k_steps
  unfold Halt
  refine' iter_listJ (fun i m₁ nx => nx = (PR, tupObj [.int p0 t1, .int p1 t2] np) :: R ∧ ∃ f tf, m₁ (Str.ofString "found") = some (.int f tf) ∧ m₁ (Str.ofString "pair") = some (.ref PR) ∧ 0 ≤ f ∧ f < 1000 ∧ cidFold p0 p1 f (cds.drop i) = cidFold p0 p1 0 cds) ?hh ?F ?N ?hm ?hj ?turn ?done
  case hh => rfl
  case F => k_asm
  case N => k_asm
  case hm => exact .tail _ (hDR _ hCL)
  case hj =>
    refine' ⟨rfl, 0, ?tf0, ?e10, ?e20, Int.le_refl _, by decide, by rw [List.drop_zero]⟩
    case e10 => exact rfl
    case e20 => exact rfl
  case turn =>
    intro I i v m₁ nx h tk oI hI hv hk₁ hJ F₁ hoI N₁
    obtain ⟨rfl, f, tf, e1, e2, hf0, hf1, hr⟩ := hJ
    obtain ⟨c, hci, T', n, u1, u2, u3, u4, rfl, hT⟩ := hcs i v hv
    obtain ⟨o1, o2, o3, o4⟩ := hok c (List.mem_of_getElem? hci)
    have F₂ := fr_see (fr_see F₁ _ e1) (Str.ofString "pair") ((if_neg (by decide)).trans e2)
    have N₂ : News _ _ h ((T', tupObj [.int c.len u1, .int c.low u2, .int c.high u3, .int c.glyph u4] n) :: (I, oI) :: (PR, tupObj [.int p0 t1, .int p1 t2] np) :: R) := fun p hp => by
      rcases List.mem_cons.mp hp with rfl | hp
      · exact N₁ _ (.tail _ (.tail _ (hDR _ hT)))
      · exact N₁ _ hp
    clear N₁ F₁
    k_steps
    · unfold Halt
      rename Fr _ _ _ _ => F9
      rename News _ _ _ _ => N9
      exact ⟨_, _, _, (PR, tupObj [.int p0 t1, .int p1 t2] np) :: R, rfl, F9, fun p hp => N9 p (.tail _ hp), fun p hp q hq => (by rw [List.mem_singleton.mp hq]; exact Nat.ne_of_lt (hI p hp)), hk₁, rfl, _, _, by exact rfl, by exact rfl, by omega, by omega, cidFold_hit hci hr (by omega) (by omega) (by omega)⟩
    all_goals (
      unfold Halt
      rename Fr _ _ _ _ => F9
      rename News _ _ _ _ => N9
      exact ⟨_, _, _, (PR, tupObj [.int p0 t1, .int p1 t2] np) :: R, rfl, F9, fun p hp => N9 p (.tail _ hp), fun p hp q hq => (by rw [List.mem_singleton.mp hq]; exact Nat.ne_of_lt (hI p hp)), hk₁, rfl, f, tf, by exact rfl, by exact rfl, hf0, hf1, cidFold_miss hci hr (by omega)⟩)
  case done =>
    intro m₁ nx h tk hJ F₁ N₁
    obtain ⟨rfl, f, tf, e1, e2, hf0, hf1, hr⟩ := hJ
    have F₂ := fr_see F₁ _ e1
    clear F₁
    have e : f = cidFold p0 p1 0 cds := by rw [hvl, List.drop_length] at hr; exact hr
    k_steps
    rename News h₀ L _ _ => kN
    subst e
    exact ret _ _ _ hf0 hf1 (by k_asm) (fun p hp => kN p (.tail _ hp))
end
end Mine
namespace Mine
/-- what _law_names tells -/
def namesD : List (PyData × PyData) :=
  [(.str (Str.ofString "space"), .int 0), (.str (Str.ofString "A"), .int 33), (.str (Str.ofString "z"), .int 90), (.str (Str.ofString "asciitilde"), .int 94),
   (.str (Str.ofString "quoteright"), .int 95), (.str (Str.ofString "quoteleft"), .int 96), (.str (Str.ofString "bullet"), .int (-1)), (.str (Str.ofString ""), .int (-1))]
section
set_option maxHeartbeats 4000000 in
theorem names_call {prog q0 : Program} {w : World} {loose : List Str} {mean : ExcName → Option Value} {mg mb : Str → Option Value} {gd : Option (List Code)}
    {cn : Str} {cs : Scope} {a : Addr} {ccd : Value} {cl : List (Str × Addr)} {outer : List Env} {A₀ : Around} {base h₀ : Heap} {L : Addr} {m : Str → Option Value} {s : Shared}
    {R : List (Addr × Obj)} {Q E : Value → Shared → Prop}
    (B : Below A₀ base outer h₀) (F : Fr h₀ L s.heap m) (X : (K0 w.params).In h₀)
    (N : News h₀ L s.heap R) (T : Top q0 loose mean mg mb h₀) (hk : cs.kind = .function)
    (ret : ∀ d o kvs h' tk', (d == sysModules) = false → Obj.IsDictOf (PySem.strKind prog w) o kvs → PyProof.V.FlatPairs PyData.str kvs namesD → (∀ p ∈ R, p.1 < d) → Fr h₀ L h' m → News h₀ L h' ((d, o) :: R) → Q (.ref d) { s with heap := h', toks := tk' }) :
    wpAny (model prog w) (topA gd (envX cn cs L a ccd cl) outer) (call (.ref 324) [] []) Q E s := by
  have hfill : PySem.Challenge.rw_og0167_01 = PySem.Challenge.rw_og0167_01 → K0 = K0 → True := by k_fill; intros; trivial
  k_with_none
  refine wpAny_call ?_
  k_dflt cell_enter
  k_steps
  rename Obj.IsDictOf _ _ _ => hd9
  rename PyProof.V.FlatPairs _ _ _ => hf9
  rename News h₀ L _ _ => kN
  refine ret _ _ _ _ _ (by assumption) hd9 ?_ ?_ (by k_asm) kN
  · exact hf9
  · assumption
end
end Mine
namespace Mine
/-- the names of the signs 32 to 126 -/
def asciiL : List Str := (["space", "exclam", "quotedbl", "numbersign", "dollar", "percent", "ampersand", "quotesingle", "parenleft", "parenright", "asterisk", "plus", "comma", "hyphen", "period", "slash", "zero", "one", "two", "three", "four", "five", "six", "seven", "eight", "nine", "colon", "semicolon", "less", "equal", "greater", "question", "at", "A", "B", "C", "D", "E", "F", "G", "H", "I", "J", "K", "L", "M", "N", "O", "P", "Q", "R", "S", "T", "U", "V", "W", "X", "Y", "Z", "bracketleft", "backslash", "bracketright", "asciicircum", "underscore", "grave", "a", "b", "c", "d", "e", "f", "g", "h", "i", "j", "k", "l", "m", "n", "o", "p", "q", "r", "s", "t", "u", "v", "w", "x", "y", "z", "braceleft", "bar", "braceright", "asciitilde"] : List String).map Str.ofString
theorem strsAre_cast {vs : List Value} {xs ys : List Str} (e : xs = ys) (h : StrsAre vs xs) : StrsAre vs ys := e ▸ h
theorem allLt_off8 {a b c d e f g k : Prop} {D : Addr} {T1 : List (Addr × Obj)} (h : a ∧ b ∧ c ∧ d ∧ e ∧ f ∧ g ∧ k ∧ AllLt D T1) : ∀ p ∈ T1, p.1 < D := allLt_mem h.2.2.2.2.2.2.2.2
section
local macro_rules | `(tactic| walk_at "exec Assign cons ListComp") => `(tactic| (k_here; k_dflt (refine LCg.Assign_ListComp_U (F₀ := by k_asm) (by rfl) (by with_unfolding_all rfl) (by with_unfolding_all rfl) (by decide) (by rfl) (by decide) (by rfl) (by rfl) (by rfl) ?_)))
local macro_rules | `(tactic| walk_at "CompSrc") => `(tactic| (k_here; k_dflt (refine' LCg.CompSrc.range ?hh ?F ?N ?hr ?hs ?hz ?hl ?_; (case hh => rfl); (case F => k_asm); (case N => k_asm); (case hr => assumption); (case hs => decide); (case hz => exact rangeSize_nat _ _); (case hl => exact Nat.le_of_ble_eq_true rfl)); intro g'; (refine comp_strs (fun k => (⟨#[k.toNat]⟩ : PySem.Str)) (fun i' t' I' oI' C' oC' D' m' ys' h' tk' E' hi' hC' hx' F' N' off' ne' => ?_) (fun ys' hk' => ?_)); kcf_last))
local macro_rules | `(tactic| walk_at "CompEnd") => `(tactic| (refine LCg.CompEnd.intro (by assumption) (by assumption) _ (fun _ hp => hp) (by assumption) (by trivial) (ElIs.mk ⟨_, rfl⟩)))
local macro_rules | `(tactic| walk_at "binaryOp Add ref ref") => `(tactic| (k_here; (with_reducible show wpAny _ _ (binaryOp _ (Value.ref _) (Value.ref _)) _ _ _); k_dflt (refine' add_strs ?F ?N ?a ?b ?i ?j ?_ ?z; (case F => k_asm); (case N => k_asm); (case a => kmk_list); (case b => kmk_list); (case i => first | exact strs_words (by assumption) (by assumption) | assumption); (case j => first | exact strs_words (by assumption) (by assumption) | assumption); (case z => decide +kernel)); intro D' us' h' F' N' l1 hs'; (try k_lt l1); (try k_sweep)))
set_option maxHeartbeats 4000000 in
theorem ascii_call {prog q0 : Program} {w : World} {loose : List Str} {mean : ExcName → Option Value} {mg mb : Str → Option Value} {gd : Option (List Code)}
    {cn : Str} {cs : Scope} {a : Addr} {ccd : Value} {cl : List (Str × Addr)} {outer : List Env} {A₀ : Around} {base h₀ : Heap} {L : Addr} {m : Str → Option Value} {s : Shared}
    {R : List (Addr × Obj)} {Q E : Value → Shared → Prop}
    (B : Below A₀ base outer h₀) (F : Fr h₀ L s.heap m) (X : (K0 w.params).In h₀)
    (N : News h₀ L s.heap R) (T : Top q0 loose mean mg mb h₀) (hk : cs.kind = .function)
    (ret : ∀ D us h' tk', StrsAre us asciiL → (∀ p ∈ R, p.1 < D) → Fr h₀ L h' m → News h₀ L h' ((D, listOf us.toArray 0) :: R) → Q (.ref D) { s with heap := h', toks := tk' }) :
    wpAny (model prog w) (topA gd (envX cn cs L a ccd cl) outer) (call (.ref 208) [] []) Q E s := by
  have hfill : PySem.Challenge.rw_og0167_01 = PySem.Challenge.rw_og0167_01 → K0 = K0 → True := by k_fill; intros; trivial
  k_with_none
  refine wpAny_call ?_
  k_dflt cell_enter
  k_steps
  rename StrsAre _ _ => hs9
  rename _ ∧ _ ∧ _ ∧ _ ∧ _ ∧ _ ∧ _ ∧ _ ∧ AllLt _ _ => l9
  rename News h₀ L _ _ => kN
  refine ret _ _ _ _ (strsAre_cast ?_ hs9) (allLt_off8 l9) (by k_asm) (fun p hp => kN p ?_)
  · decide +kernel
  · rcases List.mem_cons.mp hp with rfl | hp
    · exact .head _
    · exact .tail _ (.tail _ (.tail _ (.tail _ (.tail _ (.tail _ (.tail _ (.tail _ (.tail _ hp))))))))
end
end Mine
namespace Mine
section
open PyProof.Rows.LCg PySem.Calls
variable {prog : Program} {w : World} {A : Around} {E : Value → Shared → Prop} {s : Shared} {h₀ : Heap} {L : Addr} {m : Str → Option Value} {env : Env}

theorem assign4 {a b c d : Str} {pa pb pc pd tp : Pos} {kk : Nat} {T : Addr} {x y z u : Value} {mm : Str → Option Value} {Q : Unit → Shared → Prop} (hh : A.handled = none) (ht : s.heap.IsTuple T #[x, y, z, u])
    (ha : env.kindOf a = some .local) (hb : env.kindOf b = some .local) (hc : env.kindOf c = some .local) (hd : env.kindOf d = some .local)
    (hp : (env.scope.kind == .class || (env.scope.kind == .module && env.locals != env.globals)) = false) (hn : s.heap.Ns env.locals mm)
    (h : ∀ (h' : Heap) (tk : Nat), h'.Ns env.locals (fun n => if n = d then some u else if n = c then some z else if n = b then some y else if n = a then some x else mm n) → (∀ k o, k ≠ env.locals → s.heap.get? k = some o → h'.get? k = some o) → Q () { s with heap := h', toks := tk }) :
    wpAny (model prog w) A (assign (.Tuple [.Name a pa, .Name b pb, .Name c pc, .Name d pd] kk tp) env (.ref T)) Q E s := by
  refine wpAny_assign_Tuple hh ht rfl rfl fun h₁ he₁ => ?_
  have hL : env.locals ≠ s.heap.objs.size := Nat.ne_of_lt hn.lt
  have hn₁ : h₁.Ns env.locals mm := hn.at' fun o e => he₁ _ o hL e
  have up₁ : ∀ k o, s.heap.get? k = some o → h₁.get? k = some o := fun k o e => he₁ k o (Nat.ne_of_lt (Heap.lt_size e)) e
  show wpAny _ _ (assignInOrder [assign (.Name a pa) env, assign (.Name b pb) env, assign (.Name c pc) env, assign (.Name d pd) env] [x, y, z, u]) _ _ _
  refine assignInOrder_cons (wpAny_assign_Name (wpAny_storeName_local ha hn₁ (fun h₂ hn₂ hs₂ => ?_) hp))
  refine assignInOrder_cons (wpAny_assign_Name (wpAny_storeName_local hb hn₂ (fun h₃ hn₃ hs₃ => ?_) hp))
  refine assignInOrder_cons (wpAny_assign_Name (wpAny_storeName_local hc hn₃ (fun h₄ hn₄ hs₄ => ?_) hp))
  refine assignInOrder_cons (wpAny_assign_Name (wpAny_storeName_local hd hn₄ (fun h₅ hn₅ hs₅ => ?_) hp))
  refine assignInOrder_nil ?_
  exact h h₅ _ hn₅ fun k o hk e => hs₅.extBut k o hk (hs₄.extBut k o hk (hs₃.extBut k o hk (hs₂.extBut k o hk (up₁ k o e))))

/-- one turn of a comprehension over four-tuples with a test, which changes nothing -/
def C4Turn (prog : Program) (w : World) (A : Around) (h₀ : Heap) (L : Addr) (m : Str → Option Value) (env : Env) (c elt : Expr) (x1 x2 x3 x4 : Str) (scope : Scope) (cl : List (Str × Addr)) (s : Shared) (vs : List Value) (news : List (Addr × Obj)) (J : Nat → List Value → Prop) : Prop :=
  ∀ i T n a1 a2 a3 a4 I oI C oC D m₂ ys h tk (E' : Value → Shared → Prop), vs[i]? = some (.ref T) → (T, tupObj [a1, a2, a3, a4] n) ∈ news → J i ys → NsObj oC m₂ → m₂ x1 = some a1 → m₂ x2 = some a2 → m₂ x3 = some a3 → m₂ x4 = some a4 →
    Fr h₀ L h m → News h₀ L h ((I, oI) :: (C, oC) :: (D, lst ys) :: news) → Off3 I C D news → ((@Ne Nat I C) ∧ (@Ne Nat I D) ∧ (@Ne Nat C D)) →
    wpAny (model prog w) A (isTrue c (compEnvC scope cl C env) (eval c (compEnvC scope cl C env))) (fun okb s₃ => if okb = true then
      wpAny (model prog w) A (eval elt (compEnvC scope cl C env)) (CompEnd h₀ L m { s with heap := h, toks := tk } I oI C oC D (lst ys) (fun nw => nw = news) (fun y _ => J (i + 1) (ys ++ [y]))) E' s₃
      else CompEnd h₀ L m { s with heap := h, toks := tk } I oI C oC D (lst ys) (fun nw => nw = news) (fun _ _ => J (i + 1) ys) .none s₃) E' { s with heap := h, toks := tk }

theorem block4 {elt iter c : Expr} {x1 x2 x3 x4 : Str} {p1 p2 p3 p4 tp : Pos} {kk : Nat} {scope : Scope} {cl : List (Str × Addr)} {pos : Pos} {s₂ : Shared} {I ax : Addr} {k : Nat} {vs : List Value} {news : List (Addr × Obj)}
    {J : Nat → List Value → Prop} {RR : Value → Addr → Result → Shared → Prop}
    (hh : A.handled = none) (hsz : vs.length ≤ sizeLine) (hax : (ax, listOf vs.toArray k) ∈ news) (hvs : ∀ v ∈ vs, ∃ T n a1 a2 a3 a4, v = .ref T ∧ (T, tupObj [a1, a2, a3, a4] n) ∈ news)
    (hit : s₂.heap.IsListIter I ax 0) (hcell : ∀ y ∈ scope.names, y.2 ≠ .cell) (hkind : scope.kind = .function)
    (h1 : scope.names.lookup x1 = some .local) (h2 : scope.names.lookup x2 = some .local) (h3 : scope.names.lookup x3 = some .local) (h4 : scope.names.lookup x4 = some .local)
    (hnd : ¬ x1 = x2 ∧ ¬ x1 = x3 ∧ ¬ x1 = x4 ∧ ¬ x2 = x3 ∧ ¬ x2 = x4 ∧ ¬ x3 = x4)
    (F : Fr h₀ L s₂.heap m) (N : News h₀ L s₂.heap news) (hIL : L ≠ I) (hI₀ : h₀.get? I = none) (off : ∀ p ∈ news, p.1 ≠ I)
    (hJ : J 0 []) (turn : C4Turn prog w A h₀ L m env c elt x1 x2 x3 x4 scope cl s₂ vs news J)
    (hRR : ∀ D C h tk m' ys, Fr h₀ L h m → News h₀ L h ((D, lst ys) :: news) → Off1 D news → h.Ns C m' → h₀.get? C = none → h₀.get? D = none → C ≠ L → D ≠ L → C ≠ D → (∀ p ∈ news, p.1 ≠ C) → J vs.length ys → RR (.ref D) C (.ok .next) { s₂ with heap := h, toks := tk }) :
    wpAny (model prog w) A (newList []) (fun acc s₃ => wpAny (model prog w) A (newFunctionEnv scope env.globals cl [] env.qual none .none (some env)) (fun cenv s₄ =>
      codeAny (model prog w) A (.compStart (.ListComp elt [⟨.Tuple [.Name x1 p1, .Name x2 p2, .Name x3 p3, .Name x4 p4] kk tp, iter, [c], 0⟩] scope pos) 0 (.ref I) acc { cenv with scope := relabel scope env }) (RR acc cenv.locals) s₄) E s₃) E s₂ := by
  refine wpAny_newObj_type (wpAny_newFunctionEnv hcell (by intro y hy; simp at hy) (fun h₁ hns₁ hsb₁ => ?_) hkind)
  dsimp only at hns₁ hsb₁ ⊢
  generalize hH2 : s₂.heap.push { cls := .type "list", dict := none, data := .seq ([] : List Value).toArray } = H2 at hns₁ hsb₁ ⊢
  have hC : H2.objs.size = s₂.heap.objs.size + 1 := by rw [← hH2, Heap.size_push]
  have hDC : s₂.heap.objs.size ≠ H2.objs.size := by rw [hC]; exact Nat.ne_of_lt (Nat.lt_succ_self _)
  have below : ∀ b, b < s₂.heap.objs.size → b ≠ H2.objs.size ∧ b ≠ s₂.heap.objs.size := fun b hb => ⟨by rw [hC]; exact Nat.ne_of_lt (Nat.lt_succ_of_lt hb), Nat.ne_of_lt hb⟩
  have hIlt : I < s₂.heap.objs.size := by obtain ⟨o, e, _⟩ := hit; exact Heap.lt_size e
  have old : ∀ b o, s₂.heap.get? b = some o → h₁.get? b = some o := fun b o e => hsb₁.extBut b o (below b (Heap.lt_size e)).1 (Heap.get?_push_of_some _ (hH2 ▸ Heap.get?_push_of_some _ e))
  have hacc : h₁.get? s₂.heap.objs.size = some (lst []) := hsb₁.extBut _ _ hDC (Heap.get?_push_of_some _ (hH2 ▸ Heap.get?_push_size _ rfl))
  have fresh₀ : ∀ a, s₂.heap.objs.size ≤ a → h₀.get? a = none := fun a ha => by
    cases e : h₀.get? a with
    | none => rfl
    | some o' => exact absurd (Heap.lt_size (F.keep a o' e)) (Nat.not_lt.mpr ha)
  have hD₀ : h₀.get? s₂.heap.objs.size = none := fresh₀ _ (Nat.le_refl _)
  have hC₀ : h₀.get? H2.objs.size = none := fresh₀ _ (by rw [hC]; exact Nat.le_succ _)
  have hLlt : L < s₂.heap.objs.size := F.ns.lt
  have hDL : s₂.heap.objs.size ≠ L := Ne.symm (below L hLlt).2
  have hCL : H2.objs.size ≠ L := Ne.symm (below L hLlt).1
  have hCI : I ≠ H2.objs.size := (below I hIlt).1
  have hDI : I ≠ s₂.heap.objs.size := (below I hIlt).2
  have offD : ∀ p ∈ news, p.1 ≠ s₂.heap.objs.size := fun p hp => (below _ (Heap.lt_size (N p hp).1)).2
  have offC : ∀ p ∈ news, p.1 ≠ H2.objs.size := fun p hp => (below _ (Heap.lt_size (N p hp).1)).1
  have off₀ : Off3 I H2.objs.size s₂.heap.objs.size news := Off3.of fun p hp => ⟨off p hp, offC p hp, offD p hp⟩
  have haI : ax ≠ I := off _ hax
  have W := Walks.list (prog := prog) (w := w) hh I ax haI vs.toArray
  have hn : vs.toArray.size = vs.length := by simp
  have loop : ∀ s₃ : Shared, s₃ = { s₂ with heap := h₁, toks := s₂.toks + ([] : List (Str × Value)).length } →
      codeAny (model prog w) A (.compLoop (.ListComp elt [⟨.Tuple [.Name x1 p1, .Name x2 p2, .Name x3 p3, .Name x4 p4] kk tp, iter, [c], 0⟩] scope pos) 0 (.ref I) (.ref s₂.heap.objs.size) (compEnvC scope cl H2.objs.size env))
        (RR (.ref s₂.heap.objs.size) H2.objs.size) s₃ := by
    rintro s₃ rfl
    refine kct_loop (fun q s' => ∃ h' tk i ys m', s' = { s₂ with heap := h', toks := tk } ∧ i ≤ vs.length ∧ q = vs.length + 1 - i ∧ ys.length ≤ i ∧ h'.IsListIter I ax i ∧ Fr h₀ L h' m ∧ h'.Ns H2.objs.size m' ∧ News h₀ L h' ((s₂.heap.objs.size, lst ys) :: news) ∧ J i ys) ?_ (vs.length + 1)
      ⟨h₁, _, 0, [], _, rfl, Nat.zero_le _, rfl, Nat.le_refl _, hit.at fun o e => old _ o e, F.keeps old, hns₁, fun p hp => ?_, hJ⟩
    · rintro q s' ⟨h', tk, i, ys, m', rfl, hi, rfl, hyl, hit', F', hn', N', hJi⟩
      have hl' : h'.IsList ax vs.toArray := ⟨_, (N' _ (List.mem_cons_of_mem _ hax)).1, rfl, k, rfl⟩
      by_cases hlt : i < vs.length
      · refine W.item i _ _ _ (by rw [hn]; exact hlt) ⟨hit', hl'⟩ fun v h₂ tk₂ hPv hst₂ hk₂ => ?_
        have hv : vs[i]? = some v := by simpa using hPv
        obtain ⟨T, n, a1, a2, a3, a4, rfl, hT⟩ := hvs v (List.mem_of_getElem? hv)
        have up₂ : ∀ b o, b ≠ I → h'.get? b = some o → h₂.get? b = some o := fun b o hb e => hk₂ b o (by simpa using hb) e
        have N₂ : News h₀ L h₂ ((s₂.heap.objs.size, lst ys) :: news) := fun p hp => by
          refine ⟨up₂ _ _ ?_ (N' p hp).1, (N' p hp).2⟩
          rcases List.mem_cons.mp hp with rfl | hp
          · exact Ne.symm hDI
          · exact off p hp
        refine letGo_listiter hst₂.1 ?_
        have hTT : h₂.IsTuple T #[a1, a2, a3, a4] := ⟨_, (N₂ _ (List.mem_cons_of_mem _ hT)).1, rfl, n, rfl⟩
        refine assign4 (env := compEnvC scope cl H2.objs.size env) hh hTT (lookup_relabel_local h1) (lookup_relabel_local h2) (lookup_relabel_local h3) (lookup_relabel_local h4) (by simp [compEnvC, relabel, hkind]) (hn'.at' fun o e => up₂ _ o (Ne.symm hCI) e) fun h₃ tk₃ hn₃ hs₃ => ?_
        have F₃ : Fr h₀ L h₃ m := ⟨F'.ns.at' fun o e => hs₃ _ o (Ne.symm hCL) (up₂ _ o hIL e), fun b o e => hs₃ b o (fun z => by rw [show b = H2.objs.size from z, hC₀] at e; cases e) (up₂ b o (fun z => by rw [z, hI₀] at e; cases e) (F'.keep b o e)), F'.above⟩
        obtain ⟨oC, heC, hoC⟩ := ns_obj hn₃
        have hit₃ : h₃.IsListIter I ax (i + 1) := hst₂.1.at fun o e => hs₃ _ o hCI e
        obtain ⟨oI, heI, rI⟩ := id hit₃
        have N₃ : News h₀ L h₃ ((I, oI) :: (H2.objs.size, oC) :: (s₂.heap.objs.size, lst ys) :: news) := fun p hp => by
          rcases List.mem_cons.mp hp with rfl | hp
          · exact ⟨heI, Ne.symm hIL, hI₀⟩
          · rcases List.mem_cons.mp hp with rfl | hp
            · exact ⟨heC, hCL, hC₀⟩
            · refine ⟨hs₃ _ _ ?_ (N₂ p hp).1, (N₂ p hp).2⟩
              rcases List.mem_cons.mp hp with rfl | hp
              · exact hDC
              · exact offC p hp
        obtain ⟨d1, d2, d3, d4, d5, d6⟩ := hnd
        refine wpAny_mono (turn i T n a1 a2 a3 a4 I oI H2.objs.size oC s₂.heap.objs.size _ ys h₃ _ _ hv hT hJi hoC (by simp [d1, d2, d3]) (by simp [d4, d5]) (by simp [d6]) (by simp) F₃ N₃ off₀ ⟨hCI, hDI, Ne.symm hDC⟩) (fun okb s₅ h₅ => ?_) fun _ _ e => e
        cases okb with
        | false =>
          simp only [Bool.false_eq_true, if_false] at h₅ ⊢
          obtain ⟨h₆, tk₆, nw, rfl, F₆, N₆, _, rfl, hJ₆⟩ := h₅
          refine ⟨vs.length + 1 - (i + 1), by omega, h₆, tk₆, i + 1, ys, _, rfl, hlt, rfl, Nat.le_succ_of_le hyl, ⟨oI, (N₆ _ List.mem_cons_self).1, rI⟩, F₆, hoC.ns (N₆ _ (List.mem_cons_of_mem _ List.mem_cons_self)).1, fun p hp => N₆ p (List.mem_cons_of_mem _ (List.mem_cons_of_mem _ hp)), hJ₆⟩
        | true =>
          simp only [if_true] at h₅ ⊢
          refine wpAny_mono h₅ (fun y s₆ h₇ => ?_) fun _ _ e => e
          obtain ⟨h₆, tk₆, nw, rfl, F₆, N₆, _, rfl, hJ₆⟩ := h₇
          have zI := (N₆ (I, oI) List.mem_cons_self).1
          have zC := (N₆ (H2.objs.size, oC) (List.mem_cons_of_mem _ List.mem_cons_self)).1
          have zD := (N₆ (s₂.heap.objs.size, lst ys) (List.mem_cons_of_mem _ (List.mem_cons_of_mem _ List.mem_cons_self))).1
          have N₆' : News h₀ L h₆ nw := fun p hp => N₆ p (List.mem_cons_of_mem _ (List.mem_cons_of_mem _ (List.mem_cons_of_mem _ hp)))
          refine append_at (hsz := by show ys.toArray.size ≤ sizeLine; rw [List.size_toArray]; exact Nat.le_trans hyl (Nat.le_trans hi hsz)) zD fun h₇ hs₇ hD₇ => ?_
          refine ⟨vs.length + 1 - (i + 1), by omega, h₇, tk₆, i + 1, ys ++ [y], _, rfl, hlt, rfl, by rw [List.length_append, List.length_singleton]; exact Nat.succ_le_succ hyl, ⟨oI, hs₇.extBut _ _ hDI zI, rI⟩, F₆.change hs₇ hDL hD₀, (hoC.ns zC).sameBut hs₇ (Ne.symm hDC), fun p hp => ?_, hJ₆⟩
          rcases List.mem_cons.mp hp with rfl | hp
          · exact ⟨hD₇.trans (congrArg some (lst_snoc ys y)), hDL, hD₀⟩
          · exact ⟨hs₇.extBut _ _ (offD p hp) (N₆' p hp).1, (N₆' p hp).2⟩
      · obtain rfl : i = vs.length := Nat.le_antisymm hi (Nat.not_lt.mp hlt)
        refine W.done _ _ _ (by rw [hn]; exact ⟨hit', hl'⟩) fun h₂ tk₂ hk₂ => ?_
        have up₂ : ∀ b o, b ≠ I → h'.get? b = some o → h₂.get? b = some o := fun b o hb e => hk₂ b o (by simpa using hb) e
        refine hRR _ _ h₂ tk₂ _ ys (fr_but F' hk₂ hIL hI₀) (fun p hp => ?_) (Off3.one off₀) (hn'.at' fun o e => up₂ _ o (Ne.symm hCI) e) hC₀ hD₀ hCL hDL (Ne.symm hDC) offC hJi
        refine ⟨up₂ _ _ ?_ (N' p hp).1, (N' p hp).2⟩
        rcases List.mem_cons.mp hp with rfl | hp
        · exact Ne.symm hDI
        · exact off p hp
    · rcases List.mem_cons.mp hp with rfl | hp
      · exact ⟨hacc, hDL, hD₀⟩
      · exact ⟨old _ _ (N p hp).1, (N p hp).2⟩
  exact codeAny_compStart_list (loop _ rfl) (W.self 0 _ _ _ ⟨hit.at fun o e => old _ o e, ⟨_, old _ _ (N _ hax).1, rfl, k, rfl⟩⟩ (loop _ rfl))

/-- the source of such a comprehension: a made list of four-tuples -/
def C4Src (prog : Program) (w : World) (A : Around) (h₀ : Heap) (L : Addr) (m : Str → Option Value) (env : Env) (c elt : Expr) (x1 x2 x3 x4 y : Str) (scope : Scope) (cl : List (Str × Addr)) (Q : Flow → Shared → Prop) (xv : Value) (s₁ : Shared) : Prop :=
  ∃ ax k vs news J, xv = .ref ax ∧ A.handled = none ∧ Fr h₀ L s₁.heap m ∧ News h₀ L s₁.heap news ∧ (ax, listOf vs.toArray k) ∈ news ∧ vs.length ≤ sizeLine ∧ (∀ v ∈ vs, ∃ T n a1 a2 a3 a4, v = .ref T ∧ (T, tupObj [a1, a2, a3, a4] n) ∈ news) ∧ J 0 [] ∧
    (∀ g, C4Turn prog w A h₀ L m env c elt x1 x2 x3 x4 scope cl { s₁ with heap := g } vs news J) ∧
    ∀ D h tk ys, J vs.length ys → Fr h₀ L h (fun z => if z = y then some (.ref D) else m z) → News h₀ L h ((D, lst ys) :: news) → Off1 D news → Q .next { s₁ with heap := h, toks := tk }

theorem assign_comp4 {elt iter c : Expr} {x1 x2 x3 x4 y : Str} {p1 p2 p3 p4 tp py : Pos} {kk : Nat} {scope : Scope} {cl : List (Str × Addr)} {pos spos : Pos} {Q : Flow → Shared → Prop} (_F₀ : Fr h₀ L s.heap m) (hLe : env.locals = L)
    (hsw : swapsWith (.ListComp elt [⟨.Tuple [.Name x1 p1, .Name x2 p2, .Name x3 p3, .Name x4 p4] kk tp, iter, [c], 0⟩] scope pos) (some (.Name y py)) spos.line env = pure true)
    (hclos : closureFor scope env = pure cl) (hcell : ∀ z ∈ scope.names, z.2 ≠ .cell) (hkind : scope.kind = .function)
    (hnames : ∀ z ∈ scope.names, z.2 = .local → scope.names.lookup z.1 = some .local)
    (h1 : scope.names.lookup x1 = some .local) (h2 : scope.names.lookup x2 = some .local) (h3 : scope.names.lookup x3 = some .local) (h4 : scope.names.lookup x4 = some .local)
    (hnd : ¬ x1 = x2 ∧ ¬ x1 = x3 ∧ ¬ x1 = x4 ∧ ¬ x2 = x3 ∧ ¬ x2 = x4 ∧ ¬ x3 = x4)
    (hy : env.kindOf y = some .local) (hp : (env.scope.kind == .class || (env.scope.kind == .module && env.locals != env.globals)) = false)
    (h : wpAny (model prog w) A (eval iter env) (C4Src prog w A h₀ L m env c elt x1 x2 x3 x4 y scope cl Q) E s)
    (hs : ∀ x, foldedSetIterable iter env x = pure x := by intro _; rfl) :
    wpAny (model prog w) A (exec (.Assign [.Name y py] (.ListComp elt [⟨.Tuple [.Name x1 p1, .Name x2 p2, .Name x3 p3, .Name x4 p4] kk tp, iter, [c], 0⟩] scope pos) spos) env) Q E s := by
  subst hLe
  rw [exec_Assign_Name_used _ _ _ _ hsw]
  refine wpAny_bind (wpAny_standAt (wpAny_bind ?_))
  show wpAny _ A (do let _ ← comprehension (.ListComp elt [⟨.Tuple [.Name x1 p1, .Name x2 p2, .Name x3 p3, .Name x4 p4] kk tp, iter, [c], 0⟩] scope pos) scope env _ (newList []) false (eval iter env) (some (assign (.Name y py) env))) _ _ s
  refine wpAny_bind (wpAny_mono (wpAny_comprehension_free (use := some (assign (.Name y py) env)) (Q := fun _ s' => Q .next s') rfl hs hclos hkind hnames
    (wpAny_mono h (fun xv s₁ h₁ => ?_) fun _ _ e => e)) (fun _ s' hq => wpAny_pure (wpAny_pure hq)) fun _ _ e => e)
  obtain ⟨ax, k, vs, news, J, rfl, hh, F, N, hax, hsz, hvs, hJ, turn, fin⟩ := h₁
  have hl : s₁.heap.IsList ax vs.toArray := ⟨_, (N _ hax).1, rfl, k, rfl⟩
  refine wpAny_pyIter_list hl ?_
  refine block4 (k := k) hh hsz hax hvs ⟨_, Heap.get?_push_size _ rfl, rfl, rfl⟩ hcell hkind h1 h2 h3 h4 hnd (F.push _) (N.grown fun _ _ e => Heap.get?_push_of_some _ e) (Nat.ne_of_lt F.ns.lt) (next_is_new F) (fun p hp => Nat.ne_of_lt (Heap.lt_size (N p hp).1)) hJ (turn _) ?_
  intro D C h' tk m' ys F' N' o1 hn hC₀ hD₀ hCL hDL hCD offC hJ'
  show wpAny _ A (assign (.Name y py) env (.ref D)) _ _ _
  refine wpAny_assign_Name (wpAny_storeName_local hy F'.ns (fun h₂ hn₂ hs₂ => ?_) hp)
  have hL₀ : h₀.get? env.locals = none := Heap.get?_none_of_le F'.above
  have F₂ : Fr h₀ env.locals h₂ (fun z => if z = y then some (.ref D) else m z) := ⟨hn₂, fun b o e => hs₂.extBut b o (fun q => by rw [q, hL₀] at e; cases e) (F'.keep b o e), F'.above⟩
  refine ⟨m', hn.sameBut hs₂ hCL, fun h'' hs'' => fin D h'' _ ys hJ' (F₂.change hs'' hCL hC₀) (fun p hp => ?_) o1⟩
  have z : h₂.get? p.1 = some p.2 := hs₂.extBut _ _ (N' p hp).2.1 (N' p hp).1
  refine ⟨hs''.extBut _ _ ?_ z, (N' p hp).2⟩
  rcases List.mem_cons.mp hp with rfl | hp
  · exact Ne.symm hCD
  · exact offC p hp
end
end Mine
namespace Mine
/-- between two turns of _law_rows -/
def RowsJ (P C RL X : Addr) (oX : Obj) (b : Nat) (T0 : List (Addr × Obj)) (i : Nat) (m : Str → Option Value) (nx : List (Addr × Obj)) : Prop :=
  ∃ (oP oC : Obj) (D : List (Addr × Obj)) (vs : List Value) (k : Nat) (rs : List Row), nx = (P, oP) :: (C, oC) :: (RL, listOf vs.toArray k) :: (X, oX) :: (D ++ T0) ∧ Pot C (b + 8 * i) oP oC ∧ RowsAt D vs rs ∧ rs.length = i ∧ (∀ r ∈ rs, r.Ok) ∧
    m (Str.ofString "rows") = some (.ref RL) ∧ Apart D ((P, oP) :: (C, oC) :: (RL, listOf vs.toArray k) :: (X, oX) :: T0)
theorem rowsJ_start {P C RL X : Addr} {oX oP oC : Obj} {b : Nat} {R : List (Addr × Obj)} {m : Str → Option Value} (po : Pot C b oP oC) (hm : m (Str.ofString "rows") = some (.ref RL)) :
    RowsJ P C RL X oX b R 0 m ((P, oP) :: (C, oC) :: (RL, listOf #[] 0) :: (X, oX) :: R) :=
  ⟨_, _, [], [], _, [], rfl, po, .nil, rfl, fun _ h => (nomatch h), hm, .nil⟩
theorem all_take {ks : List Int} {n : Nat} (h : ∀ k ∈ ks, 0 ≤ k ∧ k < 1000) : ∀ k ∈ ks.take n, 0 ≤ k ∧ k < 1000 := fun k hk => h k (List.mem_of_mem_take hk)
theorem rows_end {T1 : List (Addr × Obj)} {h₀ h' : Heap} {L P C RL X T W : Addr} {oX oP1 oC1 oP oC : Obj} {b b' i k n kk tk : Nat} {R own D news' : List (Addr × Obj)} {vs wvs : List Value} {rs : List Row} {t1 t2 : Tok} {f l : Int} {ws : List Int} {m' : Str → Option Value} {s₁ : Shared}
    (hoff : OwnOff own (List.map (fun x => x.fst) ((P, oP1) :: (C, oC1) :: (RL, listOf vs.toArray k) :: (X, oX) :: (D ++ R))))
    (hT1 : D ++ (R ++ own) = T1) (hrs : RowsAt D vs rs) (hlen : rs.length = i) (hok : ∀ r ∈ rs, r.Ok) (hap : Apart D ((P, oP1) :: (C, oC1) :: (RL, listOf vs.toArray k) :: (X, oX) :: R))
    (F : Fr h₀ L h' m') (N : News h₀ L h' news') (hm : m' (Str.ofString "rows") = some (.ref RL))
    (po : Pot C b' oP oC) (hb' : b' ≤ b + 8 * (i + 1))
    (h5 : (T, tupObj [.int f t1, .int l t2, .ref W] n) ∈ news') (h6 : (W, listOf wvs.toArray kk) ∈ news') (hi : IntsAre wvs ws) (hr : Row.Ok ⟨f, l, ws⟩)
    (hT : ∀ p ∈ T1, p.1 ≠ T) (hW : ∀ p ∈ T1, p.1 ≠ W)
    (hTne : @Ne Nat P T ∧ @Ne Nat C T ∧ @Ne Nat RL T ∧ @Ne Nat X T) (hWne : @Ne Nat P W ∧ @Ne Nat C W ∧ @Ne Nat RL W ∧ @Ne Nat X W)
    (h1 : (P, oP) ∈ news') (h2 : (C, oC) ∈ news') (h3 : (RL, listOf (vs.toArray.push (.ref T)) (k + 1)) ∈ news') (h4 : (X, oX) ∈ news') (h7 : ∀ p ∈ T1, p ∈ news') :
    InvEndG h₀ L (RowsJ P C RL X oX b R (i + 1)) own s₁ { s₁ with heap := h', toks := tk } := by
  subst hT1
  refine InvEndG.intro (nx := (P, oP) :: (C, oC) :: (RL, listOf (vs ++ [Value.ref T]).toArray (k + 1)) :: (X, oX) :: ((T, tupObj [.int f t1, .int l t2, .ref W] n) :: (W, listOf wvs.toArray kk) :: D ++ R)) F N ?_ ?_ ?_ (fun p hp => h7 p (List.mem_append.mpr (.inr (List.mem_append.mpr (.inr hp)))))
  · refine ⟨oP, oC, (T, tupObj [.int f t1, .int l t2, .ref W] n) :: (W, listOf wvs.toArray kk) :: D, vs ++ [Value.ref T], k + 1, rs ++ [⟨f, l, ws⟩], rfl, po.mono hb', ?_, by simp [hlen], ?_, hm, ?_⟩
    · exact (hrs.mono fun p hp => .tail _ (.tail _ hp)).snoc ⟨T, W, n, kk, t1, t2, wvs, rfl, .head _, .tail _ (.head _), hi⟩
    · intro r hr'
      rcases List.mem_append.mp hr' with h | h
      · exact hok r h
      · rw [List.mem_singleton.mp h]; exact hr
    · have hap' : Apart D ((P, oP) :: (C, oC) :: (RL, listOf (vs ++ [Value.ref T]).toArray (k + 1)) :: (X, oX) :: R) := fun p hp q hq => by
        rcases List.mem_cons.mp hq with rfl | hq
        · exact hap p hp (P, oP1) (.head _)
        · rcases List.mem_cons.mp hq with rfl | hq
          · exact hap p hp (C, oC1) (.tail _ (.head _))
          · rcases List.mem_cons.mp hq with rfl | hq
            · exact hap p hp (RL, listOf vs.toArray k) (.tail _ (.tail _ (.head _)))
            · exact hap p hp q (.tail _ (.tail _ (.tail _ hq)))
      have put : ∀ (Y : Addr), (@Ne Nat P Y ∧ @Ne Nat C Y ∧ @Ne Nat RL Y ∧ @Ne Nat X Y) → (∀ p ∈ D ++ (R ++ own), p.1 ≠ Y) → ∀ q ∈ (P, oP) :: (C, oC) :: (RL, listOf (vs ++ [Value.ref T]).toArray (k + 1)) :: (X, oX) :: R, q.1 ≠ Y := fun Y ne off q hq => by
        rcases List.mem_cons.mp hq with rfl | hq
        · exact ne.1
        · rcases List.mem_cons.mp hq with rfl | hq
          · exact ne.2.1
          · rcases List.mem_cons.mp hq with rfl | hq
            · exact ne.2.2.1
            · rcases List.mem_cons.mp hq with rfl | hq
              · exact ne.2.2.2
              · exact off q (List.mem_append.mpr (.inr (List.mem_append.mpr (.inl hq))))
      exact Apart.cons (put T hTne hT) (Apart.cons (put W hWne hW) hap')
  · intro p hp c hc
    have hp' : p ∈ D ++ (R ++ own) := List.mem_append.mpr (.inr (List.mem_append.mpr (.inr hp)))
    simp only [List.map_cons, List.map_append, List.cons_append, List.mem_cons] at hc
    rcases hc with rfl | rfl | rfl | rfl | rfl | rfl | hc
    · exact hoff p hp _ (.head _)
    · exact hoff p hp _ (.tail _ (.head _))
    · exact hoff p hp _ (.tail _ (.tail _ (.head _)))
    · exact hoff p hp _ (.tail _ (.tail _ (.tail _ (.head _))))
    · exact hT p hp'
    · exact hW p hp'
    · exact hoff p hp c (by simp only [List.map_cons, List.map_append, List.mem_cons]; exact .inr (.inr (.inr (.inr hc))))
  · intro p hp
    rw [List.push_toArray] at h3
    simp only [List.cons_append, List.mem_cons] at hp
    rcases hp with rfl | rfl | rfl | rfl | rfl | rfl | hp
    · exact h1
    · exact h2
    · exact h3
    · exact h4
    · exact h5
    · exact h6
    · refine h7 p ?_
      rcases List.mem_append.mp hp with hp | hp
      · exact List.mem_append.mpr (.inl hp)
      · exact List.mem_append.mpr (.inr (List.mem_append.mpr (.inl hp)))
section
local macro_rules | `(tactic| ktr_rel) => `(tactic| first | exact Rem.nil | exact Rem.all (by assumption) (by assumption) | (refine' Rem.keep ?ra ?rb ?rc; (case ra => k_ne); (case rb => k_ne); (case rc => ktr_rel)) | (refine' Rem.drop ?rc; (case rc => ktr_rel)))
local macro_rules | `(tactic| walk_at "call ref") => `(tactic| (k_here; (with_reducible show wpAny _ _ (PySem.call (Value.ref _) [Value.ref _, Value.int _ _] _) _ _ _); k_dflt (refine' draw_use ?B ?F ?X ?N ?T ?hk ?po ?hP ?hC ?hPC ?rem ?hb ?hlim ?hh ?hf ?hd ?hu ?hg ?_; (case B => k_asm); (case F => k_asm); (case X => k_asm); (case N => k_asm); (case T => k_asm); (case po => assumption); (case hP => k_mem); (case hC => k_mem); (case hPC => assumption); (case rem => ktr_rel); (case hb => omega); (case hlim => (constructor <;> omega)); (case hh => rfl); (case hf => rfl); (case hk => rfl); (case hd => exact Nat.le_of_ble_eq_true rfl); (case hu => exact Nat.le_of_ble_eq_true rfl); (case hg => rfl)); intro v' t' oP' oC' h' tk' hv0' hv1' po' F' N'; (try k_fold)))
local macro_rules | `(tactic| walk_at "call type:range") => `(tactic| ((with_reducible show wpAny _ _ (PySem.call _ [_]) _ _ _); k_dflt (refine' range1_rows ?F ?N ?h; (case F => k_asm); (case N => k_asm)); intro _ _ _ _ _ _ _ _ _))
local macro_rules | `(tactic| walk_at "pyIter ref") => `(tactic| (k_here; refine halt ?_))
local macro_rules | `(tactic| walk_at "exec Assign cons ListComp") => `(tactic| (k_here; k_dflt (refine LCg.Assign_ListComp_U (F₀ := by k_asm) (by rfl) (by with_unfolding_all rfl) (by with_unfolding_all rfl) (by decide) (by rfl) (by decide) (by rfl) (by rfl) (by rfl) ?_)))
local macro_rules | `(tactic| walk_at "CompSrc") => `(tactic| (k_here; k_dflt (refine' LCg.CompSrc.range ?hh ?F ?N ?hr ?hs ?hz ?hl ?_; (case hh => rfl); (case F => k_asm); (case N => k_asm); (case hr => assumption); (case hs => exact small_one (by kcf_bnd) (by kcf_bnd) (by kcf_bnd) (by kcf_bnd)); (case hz => exact rangeSize_nat _ _); (case hl => rw [PySem.sizeLine_eq]; omega)); intro g'; (refine' comp_draws (lim := 1000) ?po (fun i' t' I' oI' C' oC' D' m' ys' oP' oK' h' tk' E' hi' hC' hx' po' F' N' off' ne' => ?_) (fun ys' ks' oP' oK' hk' hl' hb' po' => ?_)); (case po => assumption); (all_goals (try ((have off2' := off'); (simp only [LCg.Off3, and_true] at off2')))); kcf_last))
local macro_rules | `(tactic| walk_at "CompEnd") => `(tactic| (refine' LCg.CompEnd.intro ?F ?N _ ?sub ?off ?S ⟨_, _, _, _, rfl, ?po, rfl, ?lo, ?hi⟩; (case po => assumption); (case F => assumption); (case N => assumption); (case sub => kcf_all); (case off => assumption); (case S => trivial); (case lo => assumption); (case hi => assumption)))
local macro_rules | `(tactic| k_all) => `(tactic| assumption)
local macro_rules | `(tactic| walk_at "call builtin:list.append") => `(tactic| (k_here; (with_reducible show wpAny _ _ (call (Value.builtin _) [Value.ref _, _]) _ _ _); k_dflt (refine' append_K ?k1 ?k2 ?k3 ?_ ?z; (case k1 => k_asm); (case k2 => k_asm); (case k3 => k_upd); (case z => (rw [PySem.sizeLine_eq]; simp only [List.size_toArray]; omega)); k_whole); intro h' F' N'; (try k_sweep)))
local macro_rules | `(tactic| walk_at "InvEndG") => `(tactic| k_dflt (refine' rows_end ?hoff ?hD ?hrs ?hlen ?hok ?hap ?F ?N ?m ?po ?hb ?h5 ?h6 ?hi ?hr ?hT ?hW ?hTne ?hWne ?h1 ?h2 ?h3 ?h4 ?h7; (case hoff => assumption); (case hD => assumption); (case hrs => assumption); (case hlen => assumption); (case hok => assumption); (case hap => assumption); (case F => k_asm); (case N => k_asm); (case m => exact rfl); (case h1 => k_mem); (case h2 => k_mem); (case h3 => k_mem); (case h4 => k_mem); (case h5 => k_mem); (case h6 => k_mem); (case po => assumption); (case hb => omega); (case hi => assumption); (case hr => (constructor <;> dsimp only <;> first | omega | assumption | exact all_take (by assumption))); (case hT => first | exact tl5 (by assumption) | exact tl6 (by assumption)); (case hW => first | exact tl4 (by assumption) | exact tl5 (by assumption)); (case hTne => omega); (case hWne => omega); (case h7 => kcf_all)))
set_option maxHeartbeats 4000000 in
theorem rows_call {prog q0 : Program} {w : World} {loose : List Str} {mean : ExcName → Option Value} {mg mb : Str → Option Value} {gd : Option (List Code)}
    {cn : Str} {cs : Scope} {a : Addr} {ccd : Value} {cl : List (Str × Addr)} {outer : List Env} {A₀ : Around} {base h₀ : Heap} {L : Addr} {m : Str → Option Value} {s : Shared}
    {P C : Addr} {oP oC : Obj} {b : Nat} {R : List (Addr × Obj)} {Q E : Value → Shared → Prop}
    (B : Below A₀ base outer h₀) (F : Fr h₀ L s.heap m) (X : (K0 w.params).In h₀)
    (N : News h₀ L s.heap ((P, oP) :: (C, oC) :: R)) (po : Pot C b oP oC) (hb : b < 1000)
    (T : Top q0 loose mean mg mb h₀) (hk : cs.kind = .function)
    (hPC : @Ne Nat P C) (hPR : ∀ p ∈ R, p.1 ≠ P) (hCR : ∀ p ∈ R, p.1 ≠ C)
    (ret : ∀ RL oP' oC' D rs h' tk', Pot C (b + 40) oP' oC' → RowsBlk RL D rs → Apart D ((P, oP') :: (C, oC') :: R) → Fr h₀ L h' m →
       News h₀ L h' ((P, oP') :: (C, oC') :: (D ++ R)) → Q (.ref RL) { s with heap := h', toks := tk' }) :
    wpAny (model prog w) { topA gd (envX cn cs L a ccd cl) outer with depth := 330, units := 50 } (call (.ref 329) [.ref P] []) Q E s := by
  have hfill : PySem.Challenge.rw_og0167_01 = PySem.Challenge.rw_og0167_01 → K0 = K0 → True := by k_fill; intros; trivial
  refine wpAny_call ?_
  k_dflt (refine' code_defC ?k1 ?k2 ?k3 ?k4 ?k5 ?kA ?kF ?kK ?k6 ?k7 ?k8 ?k9 ?kB ?kD ?_ ?c2 ?c3 ?c4; (case kA => exact rfl); (case kF => exact rfl); (case kK => exact hk); (case k1 => k_asm); (case k2 => k_asm); (case k3 => k_asm); (case k4 => k_asm); (case k5 => k_asm); (case k6 => k_is); (case k7 => k_is); (case k8 => k_room); (case k9 => exact BindsTo.of_eq rfl); (case kB => exact rfl); (case kD => decide +kernel); (case c2 => exact rfl); (case c3 => exact rfl); (case c4 => exact rfl); k_whole; intro g' L' h' tk' cells' FG' F' N' Y' B' X' T' l1; (try k_lt l1); k_cells Y'; (try simp only [List.cons_append, List.nil_append] at N'); (try dsimp only); (try k_lift B'); (try k_fold))
  k_steps
  unfold Halt
  refine' iter_rangeJ (RowsJ _ _ _ _ _ _ _) ?hh ?hr ?hs ?hz ?F ?N ?hj ?turn ?done
  case hh => rfl
  case hr => assumption
  case hs => exact small_one (by kcf_bnd) (by kcf_bnd) (by kcf_bnd) (by kcf_bnd)
  case hz => exact rangeSize_nat _ _
  case F => k_asm
  case N => k_asm
  case hj =>
    refine rowsJ_start ?_ ?_
    · assumption
    · exact rfl
  case turn =>
    intro i t m₁ nx h tk own hin hoff hJ F₁ N₁
    obtain ⟨oP1, oC1, D, vs, k, rs, rfl, po1, hrs, hlen, hok, hm, hap⟩ := hJ
    have hin' : i < 3 := by omega
    have F₂ := fr_see F₁ (Str.ofString "rows") ((if_neg (by decide)).trans hm)
    simp only [List.cons_append, List.append_assoc] at N₁
    rename _ ∧ _ ∧ _ ∧ AllLt _ R => l2
    have hT1 : ∀ p ∈ D ++ (R ++ own), p.1 ≠ P := tail_off (fun p hp => hap p hp _ (.head _)) hPR (fun p hp => hoff p hp _ (.head _))
    have hT2 : ∀ p ∈ D ++ (R ++ own), p.1 ≠ C := tail_off (fun p hp => hap p hp _ (.tail _ (.head _))) hCR (fun p hp => hoff p hp _ (.tail _ (.head _)))
    have hT3 := tail_off (fun p hp => hap p hp _ (.tail _ (.tail _ (.head _)))) (lt_off (allLt_mem l2.2.2.2)) (fun p hp => hoff p hp _ (.tail _ (.tail _ (.head _))))
    dsimp only at hT3
    have hvl : vs.length = i := hrs.length.trans hlen
    clear F₁
    generalize hT : D ++ (R ++ own) = T1 at N₁ hT1 hT2 hT3
    k_steps
  case done =>
    intro m₁ nx h tk hJ F₁ N₁
    obtain ⟨oP1, oC1, D, vs, k, rs, rfl, po1, hrs, hlen, hok, hm, hap⟩ := hJ
    have F₂ := fr_see F₁ (Str.ofString "rows") hm
    clear F₁
    k_steps
    rename _ ∧ _ ∧ _ ∧ AllLt _ R => l2
    rename News h₀ L _ (_ :: _ :: _ :: _ :: _) => kN
    refine ret _ oP1 oC1 (_ :: D) rs _ _ (po1.mono (by omega)) ⟨vs, k, .head _, hrs.mono fun p hp => .tail _ hp, by omega, hok⟩ ?_ (by k_asm) (fun p hp => ?_)
    · refine Apart.cons (fun q hq => ?_) (fun p hp q hq => ?_)
      · rcases List.mem_cons.mp hq with rfl | hq
        · exact Nat.ne_of_lt l2.2.1
        · rcases List.mem_cons.mp hq with rfl | hq
          · exact Nat.ne_of_lt l2.2.2.1
          · exact Nat.ne_of_lt (allLt_mem l2.2.2.2 q hq)
      · rcases List.mem_cons.mp hq with rfl | hq
        · exact hap p hp _ (.head _)
        · rcases List.mem_cons.mp hq with rfl | hq
          · exact hap p hp _ (.tail _ (.head _))
          · exact hap p hp q (.tail _ (.tail _ (.tail _ (.tail _ hq))))
    · refine kN p ?_
      rcases List.mem_cons.mp hp with rfl | hp
      · exact .head _
      · rcases List.mem_cons.mp hp with rfl | hp
        · exact .tail _ (.head _)
        · rcases List.mem_cons.mp hp with rfl | hp
          · exact .tail _ (.tail _ (.head _))
          · exact .tail _ (.tail _ (.tail _ (.tail _ hp)))
end
end Mine
namespace Mine
theorem ascii_use {prog q0 : Program} {w : World} {loose : List Str} {mean : ExcName → Option Value} {mg mb : Str → Option Value} {A : Around} {gd : Option (List Code)}
    {cn : Str} {cs : Scope} {a : Addr} {ccd : Value} {cl : List (Str × Addr)} {outer : List Env} {A₀ : Around} {base h₀ : Heap} {L : Addr} {m : Str → Option Value} {s : Shared}
    {R : List (Addr × Obj)} {Q E : Value → Shared → Prop}
    (B : Below A₀ base outer h₀) (F : Fr h₀ L s.heap m) (X : (K0 w.params).In h₀) (N : News h₀ L s.heap R) (T : Top q0 loose mean mg mb h₀) (hk : cs.kind = .function)
    (hh : A.handled = none) (hf : A.frames = some (envX cn cs L a ccd cl :: outer)) (hd : A.depth ≤ 340) (hu : A.units ≤ 60) (hg : A.guards = gd)
    (ret : ∀ D us h' tk', StrsAre us asciiL → (∀ p ∈ R, p.1 < D) → Fr h₀ L h' m → News h₀ L h' ((D, listOf us.toArray 0) :: R) → Q (.ref D) { s with heap := h', toks := tk' }) :
    wpAny (model prog w) A (call (.ref 208) [] []) Q E s :=
  wpAny_wider (A' := topA gd (envX cn cs L a ccd cl) outer) (ascii_call B F X N T hk ret) hh hd hf hg hu
/-- the 97 names that standard widths tell -/
def asc97 : List Str := asciiL ++ [Str.ofString "quoteright", Str.ofString "quoteleft"]
/-- the width of a name by standard widths -/
def stdVal (ws : List Int) (x : Str) : Int := if asc97.any (· == x) then ws.getD (asc97.findIdx (· == x)) 0 else 0
section
local macro_rules | `(tactic| walk_at "call ref") => `(tactic| (k_here; (with_reducible show wpAny _ _ (PySem.call (Value.ref _) _ _) _ _ _); k_dflt (refine' ascii_use ?B ?F ?X ?N ?T ?hk ?hh ?hf ?hd ?hu ?hg ?_; (case B => k_asm); (case F => k_asm); (case X => k_asm); (case N => k_asm); (case T => k_asm); (case hh => rfl); (case hf => rfl); (case hk => rfl); (case hd => exact Nat.le_of_ble_eq_true rfl); (case hu => exact Nat.le_of_ble_eq_true rfl); (case hg => rfl)); intro D' us' h' tk' hs' l1 F' N'; (try k_lt l1); (try k_fold)))
local macro_rules | `(tactic| walk_at "binaryOp Add ref ref") => `(tactic| (k_here; (with_reducible show wpAny _ _ (binaryOp _ (Value.ref _) (Value.ref _)) _ _ _); k_dflt (refine' add_strs ?F ?N ?a ?b ?i ?j ?_ ?z; (case F => k_asm); (case N => k_asm); (case a => kmk_list); (case b => kmk_list); (case i => first | assumption | exact .cons _ _ (.cons _ _ .nil)); (case j => first | assumption | exact .cons _ _ (.cons _ _ .nil)); (case z => decide +kernel)); intro D' us' h' F' N' l1 hs'; (try k_lt l1); (try k_sweep)))
local macro_rules | `(tactic| walk_at "call builtin:list.index") => `(tactic| (k_here; k_dflt (refine' index_strs ?N ?m ?i ?z ?k ?_; (case N => k_asm); (case m => k_mem); (case i => assumption); (case z => decide +kernel); (case k => assumption))))
local macro_rules | `(tactic| walk_at "subscriptTail") => `(tactic| (k_here; refine halt ?_))
set_option maxHeartbeats 4000000 in
theorem stdWidth_call {prog q0 : Program} {w : World} {loose : List Str} {mean : ExcName → Option Value} {mg mb : Str → Option Value} {gd : Option (List Code)}
    {cn : Str} {cs : Scope} {a : Addr} {ccd : Value} {cl : List (Str × Addr)} {outer : List Env} {A₀ : Around} {base h₀ : Heap} {L : Addr} {m : Str → Option Value} {s : Shared}
    {W : Addr} {kw : Nat} {vs : List Value} {ws : List Int} {x : Str} {tx : Tok} {R : List (Addr × Obj)} {Q E : Value → Shared → Prop}
    (B : Below A₀ base outer h₀) (F : Fr h₀ L s.heap m) (X : (K0 w.params).In h₀)
    (N : News h₀ L s.heap R) (T : Top q0 loose mean mg mb h₀) (hk : cs.kind = .function)
    (hW : (W, tupObj vs kw) ∈ R) (hi : IntsAre vs ws) (hl : ws.length = 97)
    (ret : ∀ t h' tk', Fr h₀ L h' m → News h₀ L h' R → Q (.int (stdVal ws x) t) { s with heap := h', toks := tk' }) :
    wpAny (model prog w) { topA gd (envX cn cs L a ccd cl) outer with depth := 330, units := 50 } (call (.ref 258) [.ref W, .str x tx] []) Q E s := by
  have hfill : PySem.Challenge.rw_og0167_01 = PySem.Challenge.rw_og0167_01 → K0 = K0 → True := by k_fill; intros; trivial
  k_with_none
  have N0 : News h₀ L s.heap ((W, tupObj vs kw) :: R) := fun p hp => by
    rcases List.mem_cons.mp hp with rfl | hp
    · exact N _ hW
    · exact N _ hp
  clear N
  refine wpAny_call ?_
  k_dflt cell_enter
  k_steps
  · unfold Halt
    rename List.any _ _ = true => hany
    have hlt : (asciiL ++ [Str.ofString "quoteright", Str.ofString "quoteleft"]).findIdx (· == x) < 97 := findIdx_lt hany
    have hvl : vs.length = 97 := hi.length.trans hl
    obtain ⟨tt, hx⟩ := hi.get _ (ws.getD ((asciiL ++ [Str.ofString "quoteright", Str.ofString "quoteleft"]).findIdx (· == x)) 0) (by rw [List.getD_eq_getElem?_getD, List.getElem?_eq_getElem (by omega)]; rfl)
    have e : stdVal ws x = ws.getD ((asciiL ++ [Str.ofString "quoteright", Str.ofString "quoteleft"]).findIdx (· == x)) 0 := by
      unfold stdVal asc97
      rw [if_pos hany]
    refine item_tupleT (News.isTup (by k_asm) (by k_mem)) (by omega) (by omega) (seqIndex_of (by omega) (by omega)) hx ?_
    k_steps
    rename News h₀ L _ _ => kN
    rw [← e]
    exact ret _ _ _ (by k_asm) (fun p hp => kN p (.tail _ (.tail _ (.tail _ (.tail _ hp)))))
  · skip
    rename List.any _ _ = false => hany
    have e : stdVal ws x = 0 := by
      unfold stdVal asc97
      rw [if_neg (by rw [hany]; exact Bool.false_ne_true)]
    rename News h₀ L _ _ => kN
    rw [← e]
    exact ret _ _ _ (by k_asm) (fun p hp => kN p (.tail _ (.tail _ (.tail _ (.tail _ hp)))))
end
end Mine
namespace Mine
theorem off1_of {D : Addr} : ∀ {l : List (Addr × Obj)}, (∀ p ∈ l, p.1 ≠ D) → LCg.Off1 D l
  | [], _ => trivial
  | _ :: _, h => ⟨h _ (.head _), off1_of fun p hp => h p (.tail _ hp)⟩
/-- a block lies apart from each of a ledger's written objects -/
def OffAll (D : List (Addr × Obj)) : List (Addr × Obj) → Prop
  | [] => True
  | q :: r => (∀ p ∈ D, p.1 ≠ q.1) ∧ OffAll D r
theorem offAll_of {D : List (Addr × Obj)} : ∀ {l : List (Addr × Obj)}, Apart D l → OffAll D l
  | [], _ => trivial
  | q :: _, h => ⟨fun p hp => h p hp q (.head _), offAll_of fun p hp q hq => h p hp q (.tail _ hq)⟩
theorem news_swap {h₀ h : Heap} {L : Addr} {a b : Addr × Obj} {D R : List (Addr × Obj)} (N : News h₀ L h (a :: b :: (D ++ R))) : News h₀ L h (a :: b :: (R ++ D)) := fun p hp => N p (by
  rcases List.mem_cons.mp hp with rfl | hp
  · exact .head _
  · rcases List.mem_cons.mp hp with rfl | hp
    · exact .tail _ (.head _)
    · exact .tail _ (.tail _ (List.mem_append.mpr ((List.mem_append.mp hp).symm))))

section
variable {prog q0 : Program} {w : World} {loose : List Str} {mean : ExcName → Option Value} {mg mb : Str → Option Value} {A : Around} {gd : Option (List Code)}
    {cn : Str} {cs : Scope} {a : Addr} {ccd : Value} {cl : List (Str × Addr)} {outer : List Env} {A₀ : Around} {base h₀ : Heap} {L : Addr} {m : Str → Option Value} {s : Shared} {R : List (Addr × Obj)} {Q E : Value → Shared → Prop}
theorem pot_use {S : Addr} {vs : List Value} {ns : List Int}
    (B : Below A₀ base outer h₀) (F : Fr h₀ L s.heap m) (X : (K0 w.params).In h₀) (N : News h₀ L s.heap R) (T : Top q0 loose mean mg mb h₀) (hk : cs.kind = .function)
    (hS : base.IsList S vs.toArray) (hi : IntsAre vs ns) (hlen : ns.length ≤ 63)
    (hh : A.handled = none) (hf : A.frames = some (envX cn cs L a ccd cl :: outer)) (hd : A.depth ≤ 340) (hu : A.units ≤ 60) (hg : A.guards = gd)
    (ret : ∀ P C oP oC h' tk', Pot C 0 oP oC → @Ne Nat P C → LCg.Off1 P R → LCg.Off1 C R → Fr h₀ L h' m → News h₀ L h' ((P, oP) :: (C, oC) :: R) → Q (.ref P) { s with heap := h', toks := tk' }) :
    wpAny (model prog w) A (call (.ref 310) [.ref S] []) Q E s :=
  wpAny_wider (A' := topA gd (envX cn cs L a ccd cl) outer) (pot_call B F X N hS hi T hk hlen fun P C st t1 t2 n n2 vs' ns' h' tk' h1 h2 h3 h4 h5 h6 h7 F' N' =>
    ret P C _ _ h' tk' ⟨st, 0, t1, t2, n, n2, vs', ns', rfl, rfl, h3, h4, h1, h2, Int.le_refl _, by omega⟩ h5 (off1_of h6) (off1_of h7) F' N') hh hd hf hg hu
theorem rows_use {P C : Addr} {oP oC : Obj} {b : Nat}
    (B : Below A₀ base outer h₀) (F : Fr h₀ L s.heap m) (X : (K0 w.params).In h₀) (N : News h₀ L s.heap ((P, oP) :: (C, oC) :: R)) (T : Top q0 loose mean mg mb h₀) (hk : cs.kind = .function)
    (po : Pot C b oP oC) (hb : b < 1000) (hPC : @Ne Nat P C) (hPR : LCg.Off1 P R) (hCR : LCg.Off1 C R)
    (hh : A.handled = none) (hf : A.frames = some (envX cn cs L a ccd cl :: outer)) (hd : A.depth ≤ 330) (hu : A.units ≤ 50) (hg : A.guards = gd)
    (ret : ∀ RL oP' oC' D rs h' tk', Pot C (b + 40) oP' oC' → RowsBlk RL D rs → (∀ p ∈ D, p.1 ≠ P) → (∀ p ∈ D, p.1 ≠ C) → OffAll D R → Fr h₀ L h' m →
       News h₀ L h' ((P, oP') :: (C, oC') :: (R ++ D)) → Q (.ref RL) { s with heap := h', toks := tk' }) :
    wpAny (model prog w) A (call (.ref 329) [.ref P] []) Q E s :=
  wpAny_wider (A' := { topA gd (envX cn cs L a ccd cl) outer with depth := 330, units := 50 }) (rows_call B F X N po hb T hk hPC (off1_mem hPR) (off1_mem hCR) fun RL oP' oC' D rs h' tk' h1 h2 h3 F' N' =>
    ret RL oP' oC' D rs h' tk' h1 h2 (fun p hp => h3 p hp _ (.head _)) (fun p hp => h3 p hp _ (.tail _ (.head _))) (offAll_of fun p hp q hq => h3 p hp q (.tail _ (.tail _ hq))) F' (news_swap N')) hh hd hf hg hu
end
end Mine
namespace Mine
/-- a block lies off six addresses -/
def Off6 (D : List (Addr × Obj)) (P C CL X3 X2 X1 : Addr) : Prop :=
  (∀ p ∈ D, p.1 ≠ P) ∧ (∀ p ∈ D, p.1 ≠ C) ∧ (∀ p ∈ D, p.1 ≠ CL) ∧ (∀ p ∈ D, p.1 ≠ X3) ∧ (∀ p ∈ D, p.1 ≠ X2) ∧ (∀ p ∈ D, p.1 ≠ X1)
theorem off_cons {x : Addr × Obj} {D : List (Addr × Obj)} {a : Addr} (h : @Ne Nat x.1 a) (t : ∀ p ∈ D, p.1 ≠ a) : ∀ p ∈ x :: D, p.1 ≠ a := fun p hp => by
  rcases List.mem_cons.mp hp with rfl | hp
  · exact h
  · exact t p hp
/-- between two turns of the loop over rows of glyphs -/
def CidsJ (P C CL X3 X2 X1 RL : Addr) (o3 o2 o1 : Obj) (b : Nat) (T0 : List (Addr × Obj)) (i : Nat) (m : Str → Option Value) (nx : List (Addr × Obj)) : Prop :=
  ∃ (oP oC : Obj) (D : List (Addr × Obj)) (vs : List Value) (k : Nat) (cs : List Cid), nx = (P, oP) :: (C, oC) :: (CL, listOf vs.toArray k) :: (X3, o3) :: (X2, o2) :: (X1, o1) :: (D ++ T0) ∧ Pot C (b + 4 * i) oP oC ∧ CidsAt D vs cs ∧ cs.length = i ∧ (∀ c ∈ cs, c.Ok) ∧
    m (Str.ofString "cids") = some (.ref CL) ∧ m (Str.ofString "rows") = some (.ref RL) ∧ Off6 D P C CL X3 X2 X1
theorem cidsJ_start {P C CL X3 X2 X1 RL : Addr} {o3 o2 o1 oP oC : Obj} {b : Nat} {T0 : List (Addr × Obj)} {m : Str → Option Value} (po : Pot C b oP oC) (hm : m (Str.ofString "cids") = some (.ref CL)) (hm2 : m (Str.ofString "rows") = some (.ref RL)) :
    CidsJ P C CL X3 X2 X1 RL o3 o2 o1 b T0 0 m ((P, oP) :: (C, oC) :: (CL, listOf #[] 0) :: (X3, o3) :: (X2, o2) :: (X1, o1) :: T0) :=
  ⟨_, _, [], [], _, [], rfl, po, .nil _, rfl, fun _ h => (nomatch h), hm, hm2, fun _ h => (nomatch h), fun _ h => (nomatch h), fun _ h => (nomatch h), fun _ h => (nomatch h), fun _ h => (nomatch h), fun _ h => (nomatch h)⟩
theorem cids_end {T1 : List (Addr × Obj)} {h₀ h' : Heap} {L P C CL X3 X2 X1 RL T : Addr} {o3 o2 o1 oP1 oC1 oP oC : Obj} {b b' i k n tk : Nat} {R own D news' : List (Addr × Obj)} {vs : List Value} {cs : List Cid} {t1 t2 t3 t4 : Tok} {g l hi gl : Int} {m' : Str → Option Value} {s₁ : Shared}
    (hoff : OwnOff own (List.map (fun x => x.fst) ((P, oP1) :: (C, oC1) :: (CL, listOf vs.toArray k) :: (X3, o3) :: (X2, o2) :: (X1, o1) :: (D ++ R))))
    (hT1 : D ++ (R ++ own) = T1) (hcs : CidsAt D vs cs) (hlen : cs.length = i) (hok : ∀ c ∈ cs, c.Ok) (hap : Off6 D P C CL X3 X2 X1)
    (F : Fr h₀ L h' m') (N : News h₀ L h' news') (hm : m' (Str.ofString "cids") = some (.ref CL)) (hm2 : m' (Str.ofString "rows") = some (.ref RL))
    (po : Pot C b' oP oC) (hb' : b' ≤ b + 4 * (i + 1))
    (h5 : (T, tupObj [.int g t1, .int l t2, .int hi t3, .int gl t4] n) ∈ news') (hr : Cid.Ok ⟨g, l, hi, gl⟩)
    (hT : ∀ p ∈ T1, p.1 ≠ T)
    (hTne : @Ne Nat P T ∧ @Ne Nat C T ∧ @Ne Nat CL T ∧ @Ne Nat X3 T ∧ @Ne Nat X2 T ∧ @Ne Nat X1 T)
    (h1 : (P, oP) ∈ news') (h2 : (C, oC) ∈ news') (h3 : (CL, listOf (vs.toArray.push (.ref T)) (k + 1)) ∈ news') (h4 : (X3, o3) ∈ news') (h41 : (X2, o2) ∈ news') (h42 : (X1, o1) ∈ news') (h7 : ∀ p ∈ T1, p ∈ news') :
    InvEndG h₀ L (CidsJ P C CL X3 X2 X1 RL o3 o2 o1 b R (i + 1)) own s₁ { s₁ with heap := h', toks := tk } := by
  subst hT1
  refine InvEndG.intro (nx := (P, oP) :: (C, oC) :: (CL, listOf (vs ++ [Value.ref T]).toArray (k + 1)) :: (X3, o3) :: (X2, o2) :: (X1, o1) :: ((T, tupObj [.int g t1, .int l t2, .int hi t3, .int gl t4] n) :: D ++ R)) F N ?_ ?_ ?_ (fun p hp => h7 p (List.mem_append.mpr (.inr (List.mem_append.mpr (.inr hp)))))
  · refine ⟨oP, oC, (T, tupObj [.int g t1, .int l t2, .int hi t3, .int gl t4] n) :: D, vs ++ [Value.ref T], k + 1, cs ++ [⟨g, l, hi, gl⟩], rfl, po.mono hb', ?_, by simp [hlen], ?_, hm, hm2, ?_⟩
    · exact (hcs.mono fun p hp => .tail _ hp).snoc ⟨T, n, t1, t2, t3, t4, rfl, .head _⟩
    · intro r hr'
      rcases List.mem_append.mp hr' with h | h
      · exact hok r h
      · rw [List.mem_singleton.mp h]; exact hr
    · obtain ⟨a1, a2, a3, a4, a5, a6⟩ := hap
      obtain ⟨c1, c2, c3, c4, c5, c6⟩ := hTne
      exact ⟨off_cons (Ne.symm c1) a1, off_cons (Ne.symm c2) a2, off_cons (Ne.symm c3) a3, off_cons (Ne.symm c4) a4, off_cons (Ne.symm c5) a5, off_cons (Ne.symm c6) a6⟩
  · intro p hp c hc
    have hp' : p ∈ D ++ (R ++ own) := List.mem_append.mpr (.inr (List.mem_append.mpr (.inr hp)))
    simp only [List.map_cons, List.map_append, List.cons_append, List.mem_cons] at hc
    rcases hc with rfl | rfl | rfl | rfl | rfl | rfl | rfl | hc
    · exact hoff p hp _ (.head _)
    · exact hoff p hp _ (.tail _ (.head _))
    · exact hoff p hp _ (.tail _ (.tail _ (.head _)))
    · exact hoff p hp _ (.tail _ (.tail _ (.tail _ (.head _))))
    · exact hoff p hp _ (.tail _ (.tail _ (.tail _ (.tail _ (.head _)))))
    · exact hoff p hp _ (.tail _ (.tail _ (.tail _ (.tail _ (.tail _ (.head _))))))
    · exact hT p hp'
    · exact hoff p hp c (by simp only [List.map_cons, List.map_append, List.mem_cons]; exact .inr (.inr (.inr (.inr (.inr (.inr hc))))))
  · intro p hp
    rw [List.push_toArray] at h3
    simp only [List.cons_append, List.mem_cons] at hp
    rcases hp with rfl | rfl | rfl | rfl | rfl | rfl | rfl | hp
    · exact h1
    · exact h2
    · exact h3
    · exact h4
    · exact h41
    · exact h42
    · exact h5
    · refine h7 p ?_
      rcases List.mem_append.mp hp with hp | hp
      · exact List.mem_append.mpr (.inl hp)
      · exact List.mem_append.mpr (.inr (List.mem_append.mpr (.inl hp)))
end Mine
namespace Mine
/-- a comprehension over a range whose elements are so, and which changes nothing -/
theorem comp_pure {prog : Program} {w : World} {A : Around} {h₀ : Heap} {L : Addr} {m : Str → Option Value} {env : Env} {elt : Expr} {x : Str} {scope : Scope} {cl : List (Str × Addr)} {s : Shared} {S : List (Addr × Obj) → Prop} {Fin : List Value → List (Addr × Obj) → Prop} {news : List (Addr × Obj)} {n : Nat} {a : Int} (p : Value → Prop)
    (turn : ∀ (i : Nat) t I oI C oC D m₂ ys h tk (E' : Value → Shared → Prop), i < n → LCg.NsObj oC m₂ → m₂ x = some (.int (a + (i : Int)) t) → Fr h₀ L h m → News h₀ L h ((I, oI) :: (C, oC) :: (D, LCg.lst ys) :: news) → LCg.Off3 I C D news → ((@Ne Nat I C) ∧ (@Ne Nat I D) ∧ (@Ne Nat C D)) →
      wpAny (model prog w) A (eval elt (compEnvC scope cl C env)) (LCg.CompEnd h₀ L m { s with heap := h, toks := tk } I oI C oC D (LCg.lst ys) S (ElIs news p)) E' { s with heap := h, toks := tk })
    (fin : ∀ ys, ys.length = n → (∀ y ∈ ys, p y) → Fin ys news) : LCg.CompRest prog w A h₀ L m env elt x scope cl s S (fun i v => ∃ t, v = .int (a + (i : Int)) t) Fin n 0 [] news := by
  refine comp_inv (fun i ys nw => nw = news ∧ ys.length = i ∧ ∀ y ∈ ys, p y) ⟨rfl, rfl, fun _ h => (nomatch h)⟩ ?_ ?_
  · rintro i v I oI C oC D m₂ ys nw h tk E' hin ⟨t, rfl⟩ ⟨rfl, hl, hys⟩ hC hx F N off ne
    refine wpAny_mono (turn i t I oI C oC D m₂ ys h tk E' hin hC hx F N off ne) (fun y s₂ hq => ?_) fun _ _ e => e
    obtain ⟨h', tk', nw', e, F', N', off', hS, hn, hp⟩ := hq
    subst hn
    refine ⟨h', tk', nw', e, F', N', off', hS, rfl, by simp [hl], fun z hz => ?_⟩
    rcases List.mem_append.mp hz with hz | hz
    · exact hys z hz
    · rw [List.mem_singleton.mp hz]; exact hp
  · rintro ys nw ⟨rfl, hl, hys⟩
    exact fin ys hl hys
/-- the eight names of the law -/
def keys8 : List Str := [Str.ofString "space", Str.ofString "A", Str.ofString "z", Str.ofString "asciitilde", Str.ofString "quoteright", Str.ofString "quoteleft", Str.ofString "bullet", Str.ofString ""]
def KeyEl (P C : Addr) (b : Nat) (R : List (Addr × Obj)) (y : Value) (nw : List (Addr × Obj)) : Prop :=
  ∃ oP oC x t, nw = (P, oP) :: (C, oC) :: R ∧ Pot C b oP oC ∧ y = .str x t ∧ x ∈ keys8
/-- a comprehension over a range, each of whose elements is one of the eight names, by one draw -/
theorem comp_keys {prog : Program} {w : World} {A : Around} {h₀ : Heap} {L : Addr} {m : Str → Option Value} {env : Env} {elt : Expr} {x : Str} {scope : Scope} {cl : List (Str × Addr)} {s : Shared} {S : List (Addr × Obj) → Prop} {Fin : List Value → List (Addr × Obj) → Prop} {R : List (Addr × Obj)} {P C : Addr} {oP oC : Obj} {b n : Nat} {a : Int}
    (po : Pot C b oP oC)
    (turn : ∀ i t I oI K oK D m₂ ys oP oC h tk (E' : Value → Shared → Prop), i < n → LCg.NsObj oK m₂ → m₂ x = some (.int (a + (i : Int)) t) → Pot C (b + i) oP oC → Fr h₀ L h m → News h₀ L h ((I, oI) :: (K, oK) :: (D, LCg.lst ys) :: (P, oP) :: (C, oC) :: R) → LCg.Off3 I K D ((P, oP) :: (C, oC) :: R) → ((@Ne Nat I K) ∧ (@Ne Nat I D) ∧ (@Ne Nat K D)) →
      wpAny (model prog w) A (eval elt (compEnvC scope cl K env)) (LCg.CompEnd h₀ L m { s with heap := h, toks := tk } I oI K oK D (LCg.lst ys) S (KeyEl P C (b + i + 1) R)) E' { s with heap := h, toks := tk })
    (fin : ∀ ys xs oP' oC', StrsAre ys xs → xs.length = n → (∀ x ∈ xs, x ∈ keys8) → Pot C (b + n) oP' oC' → Fin ys ((P, oP') :: (C, oC') :: R)) : LCg.CompRest prog w A h₀ L m env elt x scope cl s S (fun i v => ∃ t, v = .int (a + (i : Int)) t) Fin n 0 [] ((P, oP) :: (C, oC) :: R) := by
  refine comp_inv (fun i ys nw => ∃ oP oC xs, nw = (P, oP) :: (C, oC) :: R ∧ Pot C (b + i) oP oC ∧ StrsAre ys xs ∧ xs.length = i ∧ ∀ k ∈ xs, k ∈ keys8) ⟨_, _, [], rfl, po, .nil, rfl, fun _ h => (nomatch h)⟩ ?_ ?_
  · rintro i v I oI K oK D m₂ ys nw h tk E' hin ⟨t, rfl⟩ ⟨oP, oC, ks, rfl, po, hks, hl, hb⟩ hC hx F N off ne
    refine wpAny_mono (turn i t I oI K oK D m₂ ys oP oC h tk E' hin hC hx po F N off ne) (fun y s₂ hq => ?_) fun _ _ e => e
    obtain ⟨h', tk', nw', e, F', N', off', hS, oP', oC', x', t', rfl, po', rfl, h1⟩ := hq
    refine ⟨h', tk', _, e, F', N', off', hS, oP', oC', ks ++ [x'], rfl, po', strsAre_append hks (.cons x' t' .nil), by simp [hl], fun k hk => ?_⟩
    rcases List.mem_append.mp hk with hk | hk
    · exact hb k hk
    · rw [List.mem_singleton.mp hk]; exact h1
  · rintro ys nw ⟨oP, oC, ks, rfl, po, hks, hl, hb⟩
    exact fin ys ks oP oC hks hl hb po
/-- what is so of each element of the standard widths -/
def Small (y : Value) : Prop := ∃ k t, y = .int k t ∧ 0 ≤ k ∧ k < 1000
theorem smalls : ∀ (ys : List Value), (∀ y ∈ ys, Small y) → ∃ ks, IntsAre ys ks ∧ ks.length = ys.length ∧ ∀ k ∈ ks, 0 ≤ k ∧ k < 1000
  | [], _ => ⟨[], .nil, rfl, fun _ h => (nomatch h)⟩
  | y :: ys, h => by
    obtain ⟨k, t, rfl, hk⟩ := h y (.head _)
    obtain ⟨ks, h1, h2, h3⟩ := smalls ys fun z hz => h z (.tail _ hz)
    refine ⟨k :: ks, .cons k t h1, by simp [h2], fun z hz => ?_⟩
    rcases List.mem_cons.mp hz with rfl | hz
    · exact hk
    · exact h3 z hz
/-- each element is the empty text -/
def Blank (y : Value) : Prop := ∃ t, y = .str (Str.ofString "") t
theorem blanks : ∀ (ys : List Value), (∀ y ∈ ys, Blank y) → StrsAre ys (List.replicate ys.length (Str.ofString ""))
  | [], _ => .nil
  | y :: ys, h => by
    obtain ⟨t, rfl⟩ := h y (.head _)
    exact .cons _ t (blanks ys fun z hz => h z (.tail _ hz))
theorem strsAre_rep (x : Str) (t : Tok) : ∀ n, StrsAre (List.replicate n [Value.str x t]).flatten (List.replicate n x)
  | 0 => .nil
  | n + 1 => by
    rw [List.replicate_succ, List.flatten_cons, List.replicate_succ]
    exact .cons x t (strsAre_rep x t n)
theorem mul_blank {prog : Program} {w : World} {A : Around} {E : Value → Shared → Prop} {s : Shared} {h₀ : Heap} {L l : Addr} {m : Str → Option Value} {news : List (Addr × Obj)} {y : Str} {t u : Tok} {Q : Value → Shared → Prop}
    (F : Fr h₀ L s.heap m) (N : News h₀ L s.heap news) (hl : s.heap.IsList l [Value.str y t].toArray)
    (h : ∀ D us h', Fr h₀ L h' m → News h₀ L h' ((D, listOf (List.toArray us) 0) :: news) → (∀ p ∈ news, p.1 < D) → StrsAre us (List.replicate 232 y) → Q (.ref D) { s with heap := h' }) :
    wpAny (model prog w) A (binaryOp .Mult (.ref l) (.int 232 u)) Q E s :=
  KMa.mul F N hl (by decide) (by decide) (by show 1 * Int.toNat 232 ≤ 256; decide) rfl fun D h' F' N' l1 => h D _ h' F' N' l1 (strsAre_rep y t 232)
section
variable {prog q0 : Program} {w : World} {loose : List Str} {mean : ExcName → Option Value} {mg mb : Str → Option Value} {A : Around} {gd : Option (List Code)}
    {cn : Str} {cs : Scope} {a : Addr} {ccd : Value} {cl : List (Str × Addr)} {outer : List Env} {A₀ : Around} {base h₀ : Heap} {L : Addr} {m : Str → Option Value} {s : Shared} {R : List (Addr × Obj)} {Q E : Value → Shared → Prop}
theorem dec_use {top places : Int} {t1 t2 : Tok}
    (B : Below A₀ base outer h₀) (F : Fr h₀ L s.heap m) (X : (K0 w.params).In h₀) (N : News h₀ L s.heap R) (T : Top q0 loose mean mg mb h₀) (hk : cs.kind = .function)
    (ht : 0 ≤ top ∧ top < 100000000) (hp : 0 ≤ places ∧ places ≤ 9)
    (hh : A.handled = none) (hf : A.frames = some (envX cn cs L a ccd cl :: outer)) (hd : A.depth ≤ 340) (hu : A.units ≤ 60) (hg : A.guards = gd)
    (ret : ∀ x d k1 k2 t u1 p u2 h' tk', d < x → (∀ q ∈ R, q.1 < d) → 0 ≤ t → t ≤ top → 0 ≤ p → p ≤ places → DecRel top places t p → (p = 0 ∨ Int.fmod t 10 ≠ 0) → Fr h₀ L h' m →
       News h₀ L h' ((x, instObj 143 d) :: (d, decDict w k1 k2 t u1 p u2) :: R) → Q (.ref x) { s with heap := h', toks := tk' }) :
    wpAny (model prog w) A (call (.ref 143) [.int top t1, .int places t2] []) Q E s :=
  wpAny_wider (A' := topA gd (envX cn cs L a ccd cl) outer) (decimal_call B F X N T hk ht hp ret) hh hd hf hg hu
theorem names_use
    (B : Below A₀ base outer h₀) (F : Fr h₀ L s.heap m) (X : (K0 w.params).In h₀) (N : News h₀ L s.heap R) (T : Top q0 loose mean mg mb h₀) (hk : cs.kind = .function)
    (hh : A.handled = none) (hf : A.frames = some (envX cn cs L a ccd cl :: outer)) (hd : A.depth ≤ 340) (hu : A.units ≤ 60) (hg : A.guards = gd)
    (ret : ∀ d o kvs h' tk', (d == sysModules) = false → Obj.IsDictOf (PySem.strKind prog w) o kvs → PyProof.V.FlatPairs PyData.str kvs namesD → (∀ p ∈ R, p.1 < d) → Fr h₀ L h' m → News h₀ L h' ((d, o) :: R) → Q (.ref d) { s with heap := h', toks := tk' }) :
    wpAny (model prog w) A (call (.ref 324) [] []) Q E s :=
  wpAny_wider (A' := topA gd (envX cn cs L a ccd cl) outer) (names_call B F X N T hk ret) hh hd hf hg hu
theorem widthIn_use {RL : Addr} {D : List (Addr × Obj)} {rs : List Row} {code dflt : Int} {t1 t2 : Tok}
    (B : Below A₀ base outer h₀) (F : Fr h₀ L s.heap m) (X : (K0 w.params).In h₀) (N : News h₀ L s.heap R) (T : Top q0 loose mean mg mb h₀) (hk : cs.kind = .function)
    (hD : RowsBlk RL D rs) (hDR : ∀ p ∈ D, p ∈ R) (hcode : 0 ≤ code ∧ code < 1000)
    (hh : A.handled = none) (hf : A.frames = some (envX cn cs L a ccd cl :: outer)) (hd : A.depth ≤ 340) (hu : A.units ≤ 60) (hg : A.guards = gd)
    (ret : ∀ t h' tk', Fr h₀ L h' m → News h₀ L h' R → Q (.int (rowVal dflt code rs) t) { s with heap := h', toks := tk' }) :
    wpAny (model prog w) A (call (.ref 251) [.ref RL, .int code t1, .int dflt t2] []) Q E s :=
  wpAny_wider (A' := topA gd (envX cn cs L a ccd cl) outer) (widthIn_call B F X N T hk hD hDR hcode ret) hh hd hf hg hu
theorem lawIn_use {RL : Addr} {D : List (Addr × Obj)} {rs : List Row} {code dflt : Int} {t1 t2 : Tok}
    (B : Below A₀ base outer h₀) (F : Fr h₀ L s.heap m) (X : (K0 w.params).In h₀) (N : News h₀ L s.heap R) (T : Top q0 loose mean mg mb h₀) (hk : cs.kind = .function)
    (hD : RowsBlk RL D rs) (hDR : ∀ p ∈ D, p ∈ R) (hcode : 0 ≤ code ∧ code < 1000)
    (hh : A.handled = none) (hf : A.frames = some (envX cn cs L a ccd cl :: outer)) (hd : A.depth ≤ 340) (hu : A.units ≤ 60) (hg : A.guards = gd)
    (ret : ∀ t h' tk', Fr h₀ L h' m → News h₀ L h' R → Q (.int (rowVal dflt code rs) t) { s with heap := h', toks := tk' }) :
    wpAny (model prog w) A (call (.ref 336) [.ref RL, .int code t1, .int dflt t2] []) Q E s :=
  wpAny_wider (A' := topA gd (envX cn cs L a ccd cl) outer) (lawIn_call B F X N T hk hD hDR hcode ret) hh hd hf hg hu
theorem cidOf_use {CL PR : Addr} {np : Nat} {D : List (Addr × Obj)} {cds : List Cid} {p0 p1 : Int} {t1 t2 : Tok}
    (B : Below A₀ base outer h₀) (F : Fr h₀ L s.heap m) (X : (K0 w.params).In h₀) (N : News h₀ L s.heap R) (T : Top q0 loose mean mg mb h₀) (hk : cs.kind = .function)
    (hD : CidsBlk CL D cds) (hDR : ∀ p ∈ D, p ∈ R) (hPR : (PR, tupObj [.int p0 t1, .int p1 t2] np) ∈ R) (hp1 : 0 ≤ p1 ∧ p1 < 100)
    (hh : A.handled = none) (hf : A.frames = some (envX cn cs L a ccd cl :: outer)) (hd : A.depth ≤ 340) (hu : A.units ≤ 60) (hg : A.guards = gd)
    (ret : ∀ t h' tk', 0 ≤ cidFold p0 p1 0 cds → cidFold p0 p1 0 cds < 1000 → Fr h₀ L h' m → News h₀ L h' R → Q (.int (cidFold p0 p1 0 cds) t) { s with heap := h', toks := tk' }) :
    wpAny (model prog w) A (call (.ref 265) [.ref CL, .ref PR] []) Q E s :=
  wpAny_wider (A' := topA gd (envX cn cs L a ccd cl) outer) (cidOf_call B F X N T hk hD hDR hPR hp1 ret) hh hd hf hg hu
theorem stdWidth_use {W : Addr} {kw : Nat} {vs : List Value} {ws : List Int} {x : Str} {tx : Tok}
    (B : Below A₀ base outer h₀) (F : Fr h₀ L s.heap m) (X : (K0 w.params).In h₀) (N : News h₀ L s.heap R) (T : Top q0 loose mean mg mb h₀) (hk : cs.kind = .function)
    (hW : (W, tupObj vs kw) ∈ R) (hi : IntsAre vs ws) (hl : ws.length = 97)
    (hh : A.handled = none) (hf : A.frames = some (envX cn cs L a ccd cl :: outer)) (hd : A.depth ≤ 330) (hu : A.units ≤ 50) (hg : A.guards = gd)
    (ret : ∀ t h' tk', Fr h₀ L h' m → News h₀ L h' R → Q (.int (stdVal ws x) t) { s with heap := h', toks := tk' }) :
    wpAny (model prog w) A (call (.ref 258) [.ref W, .str x tx] []) Q E s :=
  wpAny_wider (A' := { topA gd (envX cn cs L a ccd cl) outer with depth := 330, units := 50 }) (stdWidth_call B F X N T hk hW hi hl ret) hh hd hf hg hu
end
theorem small_mod (x : Int) : 0 ≤ Int.fmod x 400 + 1 ∧ Int.fmod x 400 + 1 < 1000 := by
  have := fdiv_fmod_facts x 400
  omega
theorem mul_bnd {a b : Int} (h1 : 0 ≤ a ∧ a < 1000) (h2 : 0 ≤ b ∧ b < 100) : 0 ≤ a * b ∧ a * b < 100000000 := by
  refine ⟨Int.mul_nonneg h1.1 h2.1, ?_⟩
  have : a * b ≤ 999 * 99 := Int.mul_le_mul (by omega) (by omega) h2.1 (by omega)
  omega
/-- the plain law of the decimals -/
theorem dec_law {f unit t1 p1 tu pu t3 p3 t5 p5 : Int} (hu : DecRel unit 3 tu pu) (hpu : 0 ≤ pu ∧ pu ≤ 3) (h1 : DecRel f 0 t1 p1) (hp1 : 0 ≤ p1 ∧ p1 ≤ 0) (h3 : DecRel (t1 * tu) pu t3 p3) (hp3 : 0 ≤ p3 ∧ p3 ≤ pu)
    (h5 : DecRel (t3 * 1000) p3 t5 p5) (hp5 : 0 ≤ p5 ∧ p5 ≤ p3) (hn : p5 = 0 ∨ Int.fmod t5 10 ≠ 0) : t5 = f * unit ∧ p5 = 0 := by
  have e1 : p1 = 0 := by omega
  subst e1
  have hf : f = t1 := by simpa [DecRel] using h1
  subst hf
  unfold DecRel at hu h3 h5
  have key : f * unit = t3 * 10 ^ (pu - p3).toNat * 10 ^ (3 - pu).toNat := by rw [hu, ← h3, Int.mul_assoc]
  have facts := fdiv_fmod_facts t5 10
  rcases (by omega : pu = 0 ∨ pu = 1 ∨ pu = 2 ∨ pu = 3) with rfl | rfl | rfl | rfl <;>
  rcases (by omega : p3 = 0 ∨ p3 = 1 ∨ p3 = 2 ∨ p3 = 3) with rfl | rfl | rfl | rfl <;>
  first
  | (exfalso; omega)
  | (rcases (by omega : p5 = 0 ∨ p5 = 1 ∨ p5 = 2 ∨ p5 = 3) with rfl | rfl | rfl | rfl <;>
     first
     | (exfalso; omega)
     | (rw [key]; simp [Int.pow_succ] at h5 ⊢; omega)
     | (exfalso; simp [Int.pow_succ] at h5 hn; omega))
end Mine
namespace Mine
section
variable {prog : Program} {w : World} {A : Around} {E : Value → Shared → Prop} {s : Shared} {h₀ : Heap} {L D : Addr} {m : Str → Option Value} {R : List (Addr × Obj)} {Q : Value → Shared → Prop}
theorem lsort_strs {n : Nat} {vs : List Value} {ss : List Str} (F : Fr h₀ L s.heap m) (N : News h₀ L s.heap ((D, listOf vs.toArray n) :: R)) (lt : ∀ q ∈ R, q.1 < D) (hS : StrsAre vs ss) (h64 : vs.length < 64)
    (h : ∀ us xs c h', Fr h₀ L h' m → News h₀ L h' ((D, listOf (List.toArray us) c) :: R) → StrsAre us xs → xs.Perm ss → Q .none { s with heap := h' }) :
    wpAny (model prog w) A (call (.builtin "list.sort") [.ref D]) Q E s := by
  have z := N (D, listOf vs.toArray n) (.head _)
  have ho : s.heap.get? D = some (seqObj "list" vs.toArray n) := z.1
  refine wpAny_call_entry PyProof.Rows.slot_list_sort ⟨_, z.1, rfl⟩ PyProof.Rows.entry_list_sort (list_sort_treeK PyProof.Rows.strKind_oneLt ho hS.keysOf (fun v₁ v₂ rest e => keyKind_strs (by rw [← e]; exact hS)) h64 fun st' hp hs => ⟨.none, rfl, ?_⟩) (PyProof.Rows.args_list_sort _)
  obtain ⟨xs, a1, a2, _⟩ := sorted_out_str hS hp hs
  obtain ⟨c, hc⟩ := sortedHeap_at (vs := vs) (out := (arrOf st').map (·.2)) ho
  have F4 : Fr h₀ L (sortedHeap s.heap D vs ((arrOf st').map (·.2))) m :=
    ksk_fr (((ksk_fr F (Heap.SameBut.update s.heap D (Obj.mapSeq fun _ => #[])) z.2.1 z.2.2).push (seqObj "tuple" vs.toArray 0)).push (seqObj "list" #[] 0)) (Heap.SameBut.update _ D (Obj.mapSeq fun _ => (arrOf st').map (·.2))) z.2.1 z.2.2
  refine h ((arrOf st').map (·.2)).toList xs c _ F4 (fun p hq => ?_) a1 a2
  rcases List.mem_cons.mp hq with rfl | hq
  · exact ⟨by rw [Array.toArray_toList]; exact hc, z.2⟩
  · have y := N p (.tail _ hq)
    exact ⟨(sortedHeap_old (Nat.ne_of_lt (lt p hq)) (Heap.lt_size y.1)).trans y.1, y.2⟩
theorem sorted_names {d : Addr} {o : Obj} {kvs : List (Str × Value)} (hh : A.handled = none) (F : Fr h₀ L s.heap m) (N : News h₀ L s.heap R) (hm : (d, o) ∈ R) (sm : (d == sysModules) = false) (hd : Obj.IsDictOf (PySem.strKind prog w) o kvs) (hf : PyProof.V.FlatPairs PyData.str kvs namesD)
    (h : ∀ B us xs c h' tk, Fr h₀ L h' m → News h₀ L h' ((B, listOf (List.toArray us) c) :: R) → (∀ q ∈ R, q.1 < B) → StrsAre us xs → xs.length = 8 → (∀ x ∈ xs, x ∈ keys8) → Q (.ref B) { s with heap := h', toks := tk }) :
    wpAny (model prog w) A (call (.builtin "sorted") [.ref d]) Q E s := by
  refine kdu_sortedD (knd := PySem.strKind prog w) (enc := PyData.str) (D := namesD) (fun _ _ => kdl_flat_str) hh F N (TabAt.ofNews N hm sm hd hf) (by decide) fun B h' tk => ?_
  simp only [namesD, KdlKeysD]
  intro v1 f1 v2 f2 v3 f3 v4 f4 v5 f5 v6 f6 v7 f7 v8 f8 F' N' l1
  obtain ⟨t1, rfl⟩ := f1.str_inv
  obtain ⟨t2, rfl⟩ := f2.str_inv
  obtain ⟨t3, rfl⟩ := f3.str_inv
  obtain ⟨t4, rfl⟩ := f4.str_inv
  obtain ⟨t5, rfl⟩ := f5.str_inv
  obtain ⟨t6, rfl⟩ := f6.str_inv
  obtain ⟨t7, rfl⟩ := f7.str_inv
  obtain ⟨t8, rfl⟩ := f8.str_inv
  refine lsort_strs (ss := keys8) F' N' l1 (.cons _ _ (.cons _ _ (.cons _ _ (.cons _ _ (.cons _ _ (.cons _ _ (.cons _ _ (.cons _ _ .nil)))))))) (by simp only [List.length_cons, List.length_nil]; decide) fun us xs c h2 F2 N2 hS hp => ?_
  exact h B us xs c h2 tk F2 N2 l1 hS hp.length_eq fun x hx => hp.mem_iff.mp hx
end
theorem key_at {xs : List Str} {i : Nat} (hl : xs.length = 8) (hm : ∀ x ∈ xs, x ∈ keys8) (hi : i < xs.length) : xs.getD i PySem.Str.empty ∈ keys8 := by
  rw [List.getD_eq_getElem?_getD, List.getElem?_eq_getElem hi]
  exact hm _ (List.getElem_mem hi)
end Mine
namespace Mine
/-- between two turns of the law's last loop -/
def FinJ (P C X3 : Addr) (Kx T1 : List (Addr × Obj)) (vf vu vd vn vs vr vc : Value) (b i : Nat) (m : Str → Option Value) (nx : List (Addr × Obj)) : Prop :=
  ∃ oP oC o3 : Obj, nx = (P, oP) :: (C, oC) :: (X3, o3) :: (Kx ++ T1) ∧ Pot C (b + 2 * i) oP oC ∧ (∃ c, o3.data = .cell c) ∧
    m (Str.ofString "font") = some vf ∧ m (Str.ofString "unit") = some vu ∧ m (Str.ofString "default") = some vd ∧ m (Str.ofString "names") = some vn ∧ m (Str.ofString "standard") = some vs ∧ m (Str.ofString "rows") = some vr ∧ m (Str.ofString "cids") = some vc
theorem finJ_start {P C X3 : Addr} {Kx T1 : List (Addr × Obj)} {vf vu vd vn vs vr vc : Value} {b : Nat} {m : Str → Option Value} {oP oC o3 : Obj} {c : Option Value} (po : Pot C b oP oC) (d3 : o3.data = .cell c)
    (e1 : m (Str.ofString "font") = some vf) (e2 : m (Str.ofString "unit") = some vu) (e3 : m (Str.ofString "default") = some vd) (e4 : m (Str.ofString "names") = some vn) (e5 : m (Str.ofString "standard") = some vs) (e6 : m (Str.ofString "rows") = some vr) (e7 : m (Str.ofString "cids") = some vc) :
    FinJ P C X3 Kx T1 vf vu vd vn vs vr vc b 0 m ((P, oP) :: (C, oC) :: (X3, o3) :: (Kx ++ T1)) := ⟨_, _, _, rfl, po, ⟨_, d3⟩, e1, e2, e3, e4, e5, e6, e7⟩
theorem fr_see7 {h₀ h : Heap} {L : Addr} {m₁ : Str → Option Value} {t : Option Value} (F : Fr h₀ L h (fun y => if y = Str.ofString "turn" then t else m₁ y)) {vf vu vd vn vs vr vc : Value}
    (e1 : m₁ (Str.ofString "font") = some vf) (e2 : m₁ (Str.ofString "unit") = some vu) (e3 : m₁ (Str.ofString "default") = some vd) (e4 : m₁ (Str.ofString "names") = some vn) (e5 : m₁ (Str.ofString "standard") = some vs) (e6 : m₁ (Str.ofString "rows") = some vr) (e7 : m₁ (Str.ofString "cids") = some vc) :
    Fr h₀ L h (fun z => if z = Str.ofString "font" then some vf else if z = Str.ofString "unit" then some vu else if z = Str.ofString "default" then some vd else if z = Str.ofString "names" then some vn else if z = Str.ofString "standard" then some vs else if z = Str.ofString "rows" then some vr else if z = Str.ofString "cids" then some vc else if z = Str.ofString "turn" then t else m₁ z) := by
  have : (fun z => if z = Str.ofString "font" then some vf else if z = Str.ofString "unit" then some vu else if z = Str.ofString "default" then some vd else if z = Str.ofString "names" then some vn else if z = Str.ofString "standard" then some vs else if z = Str.ofString "rows" then some vr else if z = Str.ofString "cids" then some vc else if z = Str.ofString "turn" then t else m₁ z) = (fun y => if y = Str.ofString "turn" then t else m₁ y) := by
    funext z
    split
    · next h => subst h; rw [if_neg (by decide), e1]
    · split
      · next h => subst h; rw [if_neg (by decide), e2]
      · split
        · next h => subst h; rw [if_neg (by decide), e3]
        · split
          · next h => subst h; rw [if_neg (by decide), e4]
          · split
            · next h => subst h; rw [if_neg (by decide), e5]
            · split
              · next h => subst h; rw [if_neg (by decide), e6]
              · split
                · next h => subst h; rw [if_neg (by decide), e7]
                · rfl
  rw [this]; exact F
theorem news_sub {h₀ h : Heap} {L : Addr} {l l' : List (Addr × Obj)} (N : News h₀ L h l) (s : ∀ p ∈ l', p ∈ l) : News h₀ L h l' := fun p hp => N p (s p hp)
theorem news_fin0 {h₀ h : Heap} {L : Addr} {a1 a2 a3 a4 a5 P C b1 b2 b3 b4 X X2 X1 : Addr × Obj} {R : List (Addr × Obj)} (N : News h₀ L h (a1 :: a2 :: a3 :: a4 :: a5 :: P :: C :: b1 :: b2 :: b3 :: b4 :: X :: X2 :: X1 :: R)) :
    News h₀ L h (P :: C :: X :: ([X2, X1, a1, a2, a3, a4, a5] ++ R)) := news_sub N fun p hp => by
  simp only [List.cons_append, List.nil_append, List.mem_cons] at hp ⊢
  rcases hp with h | h | h | h | h | h | h | h | h | h | h <;> simp [h]
theorem fin_end {h₀ h' : Heap} {L P C X3 : Addr} {Kx T1 T2 own news' : List (Addr × Obj)} {vf vu vd vn vs vr vc : Value} {b b' i tk : Nat} {oP1 oC1 o31 oP oC o3 : Obj} {c : Option Value} {m' : Str → Option Value} {s₁ : Shared}
    (hoff : OwnOff own (List.map (fun x => x.fst) ((P, oP1) :: (C, oC1) :: (X3, o31) :: (Kx ++ T1)))) (hT : T1 ++ own = T2)
    (F : Fr h₀ L h' m') (N : News h₀ L h' news') (po : Pot C b' oP oC) (hb : b' ≤ b + 2 * (i + 1)) (d3 : o3.data = .cell c)
    (e1 : m' (Str.ofString "font") = some vf) (e2 : m' (Str.ofString "unit") = some vu) (e3 : m' (Str.ofString "default") = some vd) (e4 : m' (Str.ofString "names") = some vn) (e5 : m' (Str.ofString "standard") = some vs) (e6 : m' (Str.ofString "rows") = some vr) (e7 : m' (Str.ofString "cids") = some vc)
    (h1 : (P, oP) ∈ news') (h2 : (C, oC) ∈ news') (h3 : (X3, o3) ∈ news') (h4 : ∀ p ∈ Kx, p ∈ news') (h5 : ∀ p ∈ T2, p ∈ news') :
    InvEndG h₀ L (FinJ P C X3 Kx T1 vf vu vd vn vs vr vc b (i + 1)) own s₁ { s₁ with heap := h', toks := tk } := by
  subst hT
  refine InvEndG.intro (nx := (P, oP) :: (C, oC) :: (X3, o3) :: (Kx ++ T1)) F N ⟨_, _, _, rfl, po.mono hb, ⟨_, d3⟩, e1, e2, e3, e4, e5, e6, e7⟩ hoff (fun p hp => ?_) fun p hp => h5 p (List.mem_append.mpr (.inr hp))
  rcases List.mem_cons.mp hp with rfl | hp
  · exact h1
  · rcases List.mem_cons.mp hp with rfl | hp
    · exact h2
    · rcases List.mem_cons.mp hp with rfl | hp
      · exact h3
      · rcases List.mem_append.mp hp with hp | hp
        · exact h4 p hp
        · exact h5 p (List.mem_append.mpr (.inl hp))
theorem sub_tail {D l : List (Addr × Obj)} {a : Addr × Obj} (h : ∀ p ∈ D, p ∈ l) : ∀ p ∈ D, p ∈ a :: l := fun p hp => .tail _ (h p hp)
theorem off_app {A B : List (Addr × Obj)} {a : Addr} (h1 : ∀ p ∈ A, p.1 ≠ a) (h2 : ∀ p ∈ B, p.1 ≠ a) : ∀ p ∈ A ++ B, p.1 ≠ a := fun p hp => (List.mem_append.mp hp).elim (h1 p) (h2 p)
theorem getD_bnd {ws : List Int} {i : Nat} (h : ∀ k ∈ ws, 0 ≤ k ∧ k < 1000) : 0 ≤ ws.getD i 0 ∧ ws.getD i 0 < 1000 := by
  rw [List.getD_eq_getElem?_getD]
  cases e : ws[i]? with
  | none => exact ⟨Int.le_refl _, by decide⟩
  | some k => exact h k (List.mem_of_getElem? e)
theorem rowVal_bnd {d c : Int} (hd : 0 ≤ d ∧ d < 1000) : ∀ {rs : List Row}, (∀ r ∈ rs, r.Ok) → 0 ≤ rowVal d c rs ∧ rowVal d c rs < 1000
  | [], _ => hd
  | r :: rs, h => by
    unfold rowVal
    split
    · unfold Row.at
      split
      · exact getD_bnd (h r (.head _)).nn
      · exact getD_bnd (h r (.head _)).nn
    · exact rowVal_bnd hd fun q hq => h q (.tail _ hq)
theorem stdVal_bnd {ws : List Int} {x : Str} (h : ∀ k ∈ ws, 0 ≤ k ∧ k < 1000) : 0 ≤ stdVal ws x ∧ stdVal ws x < 1000 := by
  unfold stdVal
  split
  · exact getD_bnd h
  · exact ⟨Int.le_refl _, by decide⟩
theorem news_fin1 {h₀ h : Heap} {L : Addr} {a1 a2 a3 a4 a5 a6 P C b1 b2 b3 b4 X X2 X1 : Addr × Obj} {R : List (Addr × Obj)} (N : News h₀ L h (a1 :: a2 :: a3 :: a4 :: a5 :: a6 :: P :: C :: b1 :: b2 :: b3 :: b4 :: X :: X2 :: X1 :: R)) :
    News h₀ L h (P :: C :: X :: ([X2, X1, a1, a2, a3, a4, a5, b1] ++ R)) := news_sub N fun p hp => by
  simp only [List.cons_append, List.nil_append, List.mem_cons] at hp ⊢
  rcases hp with h | h | h | h | h | h | h | h | h | h | h | h <;> simp [h]
theorem news_fin2 {h₀ h : Heap} {L : Addr} {a1 a2 a3 a4 a5 a6 a7 P C b1 b2 b3 b4 X X2 X1 : Addr × Obj} {R : List (Addr × Obj)} (N : News h₀ L h (a1 :: a2 :: a3 :: a4 :: a5 :: a6 :: a7 :: P :: C :: b1 :: b2 :: b3 :: b4 :: X :: X2 :: X1 :: R)) :
    News h₀ L h (P :: C :: X :: ([X2, X1, a1, a2, a3, a4, a5, a7] ++ R)) := news_sub N fun p hp => by
  simp only [List.cons_append, List.nil_append, List.mem_cons] at hp ⊢
  rcases hp with h | h | h | h | h | h | h | h | h | h | h | h <;> simp [h]
theorem news_ne {h₀ h : Heap} {L : Addr} {l : List (Addr × Obj)} {p q : Addr × Obj} (N : News h₀ L h l) (hp : p ∈ l) (hq : q ∈ l) (ne : p.2 ≠ q.2) : @Ne Nat p.1 q.1 := fun e => ne (by
  have a := (N p hp).1
  have b := (N q hq).1
  rw [show p.1 = q.1 from e, b] at a
  exact (Option.some.inj a).symm)
section
variable {prog q0 : Program} {w : World} {loose : List Str} {mean : ExcName → Option Value} {mg mb : Str → Option Value} {A : Around} {gd : Option (List Code)}
    {cn : Str} {cs : Scope} {a : Addr} {ccd : Value} {cl : List (Str × Addr)} {outer : List Env} {A₀ : Around} {base h₀ : Heap} {L : Addr} {m : Str → Option Value} {s : Shared} {R : List (Addr × Obj)} {Q E : Value → Shared → Prop}
theorem widthIn_use2 {RL : Addr} {D : List (Addr × Obj)} {rs : List Row} {code dflt : Int} {t1 t2 : Tok}
    (B : Below A₀ base outer h₀) (F : Fr h₀ L s.heap m) (X : (K0 w.params).In h₀) (N : News h₀ L s.heap R) (T : Top q0 loose mean mg mb h₀) (hk : cs.kind = .function)
    (hD : RowsBlk RL D rs) (hDR : ∀ p ∈ D, p ∈ R) (hcode : 0 ≤ code ∧ code < 1000) (hdf : 0 ≤ dflt ∧ dflt < 1000)
    (hh : A.handled = none) (hf : A.frames = some (envX cn cs L a ccd cl :: outer)) (hd : A.depth ≤ 340) (hu : A.units ≤ 60) (hg : A.guards = gd)
    (ret : ∀ t h' tk', 0 ≤ rowVal dflt code rs → rowVal dflt code rs < 1000 → Fr h₀ L h' m → News h₀ L h' R → Q (.int (rowVal dflt code rs) t) { s with heap := h', toks := tk' }) :
    wpAny (model prog w) A (call (.ref 251) [.ref RL, .int code t1, .int dflt t2] []) Q E s := by
  have bd := rowVal_bnd (c := code) hdf (rs := rs) (by obtain ⟨_, _, _, _, _, hok⟩ := hD; exact hok)
  exact widthIn_use B F X N T hk hD hDR hcode hh hf hd hu hg fun t h' tk' F' N' => ret t h' tk' bd.1 bd.2 F' N'
theorem stdWidth_use2 {W : Addr} {kw : Nat} {vs : List Value} {ws : List Int} {x : Str} {tx : Tok}
    (B : Below A₀ base outer h₀) (F : Fr h₀ L s.heap m) (X : (K0 w.params).In h₀) (N : News h₀ L s.heap R) (T : Top q0 loose mean mg mb h₀) (hk : cs.kind = .function)
    (hW : (W, tupObj vs kw) ∈ R) (hi : IntsAre vs ws) (hl : ws.length = 97) (hb : ∀ k ∈ ws, 0 ≤ k ∧ k < 1000)
    (hh : A.handled = none) (hf : A.frames = some (envX cn cs L a ccd cl :: outer)) (hd : A.depth ≤ 330) (hu : A.units ≤ 50) (hg : A.guards = gd)
    (ret : ∀ t h' tk', 0 ≤ stdVal ws x → stdVal ws x < 1000 → Fr h₀ L h' m → News h₀ L h' R → Q (.int (stdVal ws x) t) { s with heap := h', toks := tk' }) :
    wpAny (model prog w) A (call (.ref 258) [.ref W, .str x tx] []) Q E s :=
  stdWidth_use B F X N T hk hW hi hl hh hf hd hu hg fun t h' tk' F' N' => ret t h' tk' (stdVal_bnd hb).1 (stdVal_bnd hb).2 F' N'
end
section
variable {prog q0 : Program} {w : World} {loose : List Str} {mean : ExcName → Option Value} {mg mb : Str → Option Value} {A : Around} {gd : Option (List Code)}
    {cn : Str} {cs : Scope} {a : Addr} {ccd : Value} {cl : List (Str × Addr)} {outer : List Env} {A₀ : Around} {base h₀ : Heap} {L : Addr} {m : Str → Option Value} {s : Shared} {R : List (Addr × Obj)} {Q E : Value → Shared → Prop}
/-- a decimal of no places is what it is made of -/
theorem dec_use0 {top : Int} {t1 t2 : Tok}
    (B : Below A₀ base outer h₀) (F : Fr h₀ L s.heap m) (X : (K0 w.params).In h₀) (N : News h₀ L s.heap R) (T : Top q0 loose mean mg mb h₀) (hk : cs.kind = .function)
    (ht : 0 ≤ top ∧ top < 100000000)
    (hh : A.handled = none) (hf : A.frames = some (envX cn cs L a ccd cl :: outer)) (hd : A.depth ≤ 340) (hu : A.units ≤ 60) (hg : A.guards = gd)
    (ret : ∀ x d k1 k2 u1 u2 h' tk', d < x → (∀ q ∈ R, q.1 < d) → Fr h₀ L h' m → News h₀ L h' ((x, instObj 143 d) :: (d, decDict w k1 k2 top u1 0 u2) :: R) → Q (.ref x) { s with heap := h', toks := tk' }) :
    wpAny (model prog w) A (call (.ref 143) [.int top t1, .int 0 t2] []) Q E s :=
  dec_use B F X N T hk ht ⟨Int.le_refl _, by decide⟩ hh hf hd hu hg fun x d k1 k2 t u1 p u2 h' tk' l2 l1 _ _ p0 p1 r _ F' N' => by
    have e : p = 0 := by omega
    subst e
    have e2 : top = t := by simpa [DecRel] using r
    subst e2
    exact ret x d k1 k2 u1 u2 h' tk' l2 l1 F' N'
theorem dec_useM {f g places : Int} {t1 t2 : Tok}
    (B : Below A₀ base outer h₀) (F : Fr h₀ L s.heap m) (X : (K0 w.params).In h₀) (N : News h₀ L s.heap R) (T : Top q0 loose mean mg mb h₀) (hk : cs.kind = .function)
    (hf1 : 0 ≤ f) (hf2 : f < 1000) (hg1 : 0 ≤ g) (hg2 : g < 10) (hp1 : 0 ≤ places) (hp2 : places ≤ 9)
    (hh : A.handled = none) (hf : A.frames = some (envX cn cs L a ccd cl :: outer)) (hd : A.depth ≤ 340) (hu : A.units ≤ 60) (hg : A.guards = gd)
    (ret : ∀ x d k1 k2 t u1 p u2 h' tk', d < x → (∀ q ∈ R, q.1 < d) → 0 ≤ t → t < 10000 → 0 ≤ p → p ≤ places → DecRel (f * g) places t p → Fr h₀ L h' m →
       News h₀ L h' ((x, instObj 143 d) :: (d, decDict w k1 k2 t u1 p u2) :: R) → Q (.ref x) { s with heap := h', toks := tk' }) :
    wpAny (model prog w) A (call (.ref 143) [.int (f * g) t1, .int places t2] []) Q E s := by
  have b0 : 0 ≤ f * g := Int.mul_nonneg hf1 hg1
  have b1 : f * g ≤ 999 * 9 := Int.mul_le_mul (by omega) (by omega) hg1 (by omega)
  exact dec_use B F X N T hk ⟨b0, by omega⟩ ⟨hp1, hp2⟩ hh hf hd hu hg fun x d k1 k2 t u1 p u2 h' tk' l2 l1 a0 a1 p0 p1 r _ F' N' => ret x d k1 k2 t u1 p u2 h' tk' l2 l1 a0 (by omega) p0 p1 r F' N'
/-- in least terms -/
def NormD (t p : Int) : Prop := p = 0 ∨ Int.fmod t 10 ≠ 0
theorem dec_useK {f places : Int} {t1 t2 : Tok}
    (B : Below A₀ base outer h₀) (F : Fr h₀ L s.heap m) (X : (K0 w.params).In h₀) (N : News h₀ L s.heap R) (T : Top q0 loose mean mg mb h₀) (hk : cs.kind = .function)
    (hf1 : 0 ≤ f) (hf2 : f < 10000) (hp1 : 0 ≤ places) (hp2 : places ≤ 9)
    (hh : A.handled = none) (hf : A.frames = some (envX cn cs L a ccd cl :: outer)) (hd : A.depth ≤ 340) (hu : A.units ≤ 60) (hg : A.guards = gd)
    (ret : ∀ x d k1 k2 t u1 p u2 h' tk', d < x → (∀ q ∈ R, q.1 < d) → 0 ≤ p → p ≤ places → DecRel (f * 1000) places t p → NormD t p → Fr h₀ L h' m →
       News h₀ L h' ((x, instObj 143 d) :: (d, decDict w k1 k2 t u1 p u2) :: R) → Q (.ref x) { s with heap := h', toks := tk' }) :
    wpAny (model prog w) A (call (.ref 143) [.int (f * 1000) t1, .int places t2] []) Q E s :=
  dec_use B F X N T hk ⟨by omega, by omega⟩ ⟨hp1, hp2⟩ hh hf hd hu hg fun x d k1 k2 t u1 p u2 h' tk' l2 l1 a0 a1 p0 p1 r n F' N' => ret x d k1 k2 t u1 p u2 h' tk' l2 l1 p0 p1 r n F' N'
end
theorem dec_law2 {f unit tu pu P1 t3 p3 P2 t5 p5 : Int} (hu : DecRel unit 3 tu pu) (hpu : 0 ≤ pu) (hpu2 : pu ≤ 3) (h3 : DecRel (f * tu) P1 t3 p3) (e1 : P1 = pu) (hp3 : 0 ≤ p3) (hp32 : p3 ≤ P1)
    (h5 : DecRel (t3 * 1000) P2 t5 p5) (e2 : P2 = p3) (hp5 : 0 ≤ p5) (hp52 : p5 ≤ P2) (hn : NormD t5 p5) : t5 = f * unit ∧ p5 = 0 := by
  subst e1; subst e2
  exact dec_law hu ⟨hpu, hpu2⟩ (decRel_start f 0) ⟨Int.le_refl _, Int.le_refl _⟩ h3 ⟨hp3, hp32⟩ h5 ⟨hp5, hp52⟩ hn
/-- two addresses that differ, unseen by omega -/
def NeA (a b : Nat) : Prop := ¬ a = b
theorem NeA.l {a b : Nat} (h : NeA a b) : @Ne Nat a b := h
theorem NeA.r {a b : Nat} (h : NeA a b) : @Ne Nat b a := fun e => h e.symm
end Mine
namespace Mine
theorem c4src_cids {prog : Program} {w : World} {A : Around} {h₀ : Heap} {L CL : Addr} {m : Str → Option Value} {env : Env} {c elt : Expr} {x1 x2 x3 x4 y : Str} {scope : Scope} {cl : List (Str × Addr)} {Q : Flow → Shared → Prop} {s₁ : Shared} {news D₀ : List (Addr × Obj)} {cds : List Cid} (p0 p1 : Int)
    (hh : A.handled = none) (F : Fr h₀ L s₁.heap m) (N : News h₀ L s₁.heap news) (hD : CidsBlk CL D₀ cds) (hDR : ∀ p ∈ D₀, p ∈ news)
    (turn : ∀ (q : Cid) t1 t2 t3 t4 g I oI C oC D m₂ ys h tk (E' : Value → Shared → Prop), q.Ok → LCg.NsObj oC m₂ → m₂ x1 = some (.int q.len t1) → m₂ x2 = some (.int q.low t2) → m₂ x3 = some (.int q.high t3) → m₂ x4 = some (.int q.glyph t4) →
      Fr h₀ L h m → News h₀ L h ((I, oI) :: (C, oC) :: (D, LCg.lst ys) :: news) → LCg.Off3 I C D news → ((@Ne Nat I C) ∧ (@Ne Nat I D) ∧ (@Ne Nat C D)) →
      wpAny (model prog w) A (isTrue c (compEnvC scope cl C env) (eval c (compEnvC scope cl C env))) (fun okb s₃ => if okb = true then
        wpAny (model prog w) A (eval elt (compEnvC scope cl C env)) (LCg.CompEnd h₀ L m { s₁ with heap := h, toks := tk, gens := g } I oI C oC D (LCg.lst ys) (fun nw => nw = news) (fun y _ => q.has p0 p1 = true ∧ ∃ t, y = .int (q.glyph + p1 - q.low) t)) E' s₃
        else LCg.CompEnd h₀ L m { s₁ with heap := h, toks := tk, gens := g } I oI C oC D (LCg.lst ys) (fun nw => nw = news) (fun _ _ => q.has p0 p1 = false) .none s₃) E' { s₁ with heap := h, toks := tk, gens := g })
    (fin : ∀ D h tk ys ks, IntsAre ys ks → ks.length ≤ 3 → ks.getLastD 0 = cidFold p0 p1 0 cds → Fr h₀ L h (fun z => if z = y then some (.ref D) else m z) → News h₀ L h ((D, LCg.lst ys) :: news) → LCg.Off1 D news → Q .next { s₁ with heap := h, toks := tk }) :
    C4Src prog w A h₀ L m env c elt x1 x2 x3 x4 y scope cl Q (.ref CL) s₁ := by
  obtain ⟨vs, k, hCL, ⟨hvl, hcs⟩, hlen, hok⟩ := hD
  refine ⟨CL, k, vs, news, fun i ys => ∃ ks, IntsAre ys ks ∧ ks.length ≤ i ∧ cidFold p0 p1 (ks.getLastD 0) (cds.drop i) = cidFold p0 p1 0 cds, rfl, hh, F, N, hDR _ hCL, by rw [PySem.sizeLine_eq]; omega, ?_, ⟨[], .nil, Nat.le_refl _, by rw [List.drop_zero]; rfl⟩, ?_, ?_⟩
  · intro v hv
    obtain ⟨i, hi, rfl⟩ := List.mem_iff_getElem.mp hv
    obtain ⟨q, _, T, n, t1, t2, t3, t4, e, hT⟩ := hcs i vs[i] (List.getElem?_eq_getElem hi)
    exact ⟨T, n, _, _, _, _, e, hDR _ hT⟩
  · intro g i T n a1 a2 a3 a4 I oI C oC D m₂ ys h tk E' hv hT hJ hC e1 e2 e3 e4 F' N' off ne
    obtain ⟨ks, hks, hkl, hfold⟩ := hJ
    obtain ⟨q, hq, T', n', t1, t2, t3, t4, e, hT'⟩ := hcs i _ hv
    injection e with e
    subst e
    have z1 := (N _ hT).1
    have z2 := (N _ (hDR _ hT')).1
    have ee := Option.some.inj (z1.symm.trans z2)
    have ed : Data.seq ([a1, a2, a3, a4] : List Value).toArray n = Data.seq ([.int q.len t1, .int q.low t2, .int q.high t3, .int q.glyph t4] : List Value).toArray n' := congrArg Obj.data ee
    injection ed with ed _
    have el : [a1, a2, a3, a4] = [Value.int q.len t1, .int q.low t2, .int q.high t3, .int q.glyph t4] := by simpa using ed
    simp only [List.cons.injEq, and_true] at el
    obtain ⟨rfl, rfl, rfl, rfl⟩ := el
    have tt := turn q t1 t2 t3 t4 s₁.gens I oI C oC D m₂ ys h tk E' (hok q (List.mem_of_getElem? hq)) hC e1 e2 e3 e4 F' N' off ne
    refine wpAny_mono tt (fun okb s₃ h₃ => ?_) fun _ _ e => e
    cases okb with
    | false =>
      simp only [Bool.false_eq_true, if_false] at h₃ ⊢
      obtain ⟨h6, tk6, nw, e6, F6, N6, o6, S6, J6⟩ := h₃
      refine ⟨h6, tk6, nw, e6, F6, N6, o6, S6, ks, hks, Nat.le_succ_of_le hkl, ?_⟩
      rw [← hfold, cidFold_drop hq, if_neg (by rw [J6]; exact Bool.false_ne_true)]
    | true =>
      simp only [if_true] at h₃ ⊢
      refine wpAny_mono h₃ (fun y s₄ h₄ => ?_) fun _ _ e => e
      obtain ⟨h6, tk6, nw, e6, F6, N6, o6, S6, J6, t, rfl⟩ := h₄
      refine ⟨h6, tk6, nw, e6, F6, N6, o6, S6, ks ++ [q.glyph + p1 - q.low], IntsAre.append hks (.cons _ t .nil), by rw [List.length_append, List.length_singleton]; exact Nat.succ_le_succ hkl, ?_⟩
      rw [← hfold, cidFold_drop hq, if_pos J6]
      congr 1
      simp [List.getLastD_eq_getLast?]
  · rintro D h tk ys ⟨ks, hks, hkl, hfold⟩ F' N' o1
    refine fin D h tk ys ks hks (by omega) ?_ F' N' o1
    rw [hvl, List.drop_length] at hfold
    exact hfold
end Mine
namespace Mine
local macro_rules | `(tactic| k_all) => `(tactic| assumption)
local macro_rules | `(tactic| walk_at "subscriptTail") => `(tactic| (k_here; (with_reducible show wpAny _ _ (subscriptTail _ _ (Value.ref _) (Value.int _ _)) _ _ _); k_dflt (refine' KTb.item_list ?l ?w ?i0 ?i1 ?f ?_; (case l => exact News.isList (by k_asm) (by k_mem)); (case w => assumption); (case i0 => omega); (case i1 => first | (rw [List.length_append]; omega) | omega); (case f => omega)); intro t' ktbLt))
local macro_rules | `(tactic| walk_at "subscriptTail") => `(tactic| (k_here; (with_reducible show wpAny _ _ (subscriptTail _ _ (Value.ref _) (Value.int 1 _)) _ _ _); k_dflt (refine' item_tupleT (l := [_, _]) (j := 1) ?t ?lo ?hi ?hj ?hx ?_; (case t => exact News.isTup (by k_asm) (by k_mem)); (case lo => decide); (case hi => decide); (case hj => rfl); (case hx => rfl))))
local macro_rules | `(tactic| ktr_rel) => `(tactic| first | exact Rem.nil | exact Rem.all (by assumption) (by assumption) | (refine' Rem.keep ?ra ?rb ?rc; (case ra => k_ne); (case rb => k_ne); (case rc => ktr_rel)) | (refine' Rem.drop ?rc; (case rc => ktr_rel)))
local macro_rules | `(tactic| walk_at "call ref") => `(tactic| (k_here; (with_reducible show wpAny _ _ (PySem.call (Value.ref _) [Value.ref _, Value.int _ _] _) _ _ _); k_dflt (refine' draw_use ?B ?F ?X ?N ?T ?hk ?po ?hP ?hC ?hPC ?rem ?hb ?hlim ?hh ?hf ?hd ?hu ?hg ?_; (case hf => rfl); (case B => k_asm); (case F => k_asm); (case X => k_asm); (case N => k_asm); (case T => k_asm); (case po => assumption); (case hP => k_mem); (case hC => k_mem); (case hPC => assumption); (case rem => ktr_rel); (case hb => omega); (case hlim => (constructor <;> omega)); (case hh => rfl); (case hk => rfl); (case hd => exact Nat.le_of_ble_eq_true rfl); (case hu => exact Nat.le_of_ble_eq_true rfl); (case hg => rfl)); intro v' t' oP' oC' h' tk' hv0' hv1' po' F' N'; (try k_fold)))
local macro_rules | `(tactic| walk_at "call ref") => `(tactic| (k_here; (with_reducible show wpAny _ _ (PySem.call (Value.ref _) [Value.int _ _, Value.int 0 _] _) _ _ _); k_dflt (refine' dec_use0 ?B ?F ?X ?N ?T ?hk ?ht ?hh ?hf ?hd ?hu ?hg ?_; (case hf => rfl); (case B => k_asm); (case F => k_asm); (case X => k_asm); (case N => k_asm); (case T => k_asm); (case ht => omega);  (case hh => rfl); (case hk => rfl); (case hd => exact Nat.le_of_ble_eq_true rfl); (case hu => exact Nat.le_of_ble_eq_true rfl); (case hg => rfl)); intro x' d' k1' k2' u1' u2' h' tk' l2 l1 F' N'; (try k_lt l1); (try k_fold)))
local macro_rules | `(tactic| walk_at "call ref") => `(tactic| (k_here; (with_reducible show wpAny _ _ (PySem.call (Value.ref _) [Value.ref _, Value.int _ _, Value.int _ _] _) _ _ _); k_dflt (refine' lawIn_use ?B ?F ?X ?N ?T ?hk ?hD ?hDR ?hcode ?hh ?hf ?hd ?hu ?hg ?_; (case hf => rfl); (case B => k_asm); (case F => k_asm); (case X => k_asm); (case N => k_asm); (case T => k_asm); (case hD => assumption); (case hDR => repeat (first | assumption | refine sub_tail ?_)); (case hcode => omega); (case hh => rfl); (case hk => rfl); (case hd => exact Nat.le_of_ble_eq_true rfl); (case hu => exact Nat.le_of_ble_eq_true rfl); (case hg => rfl)); intro t' h' tk' F' N'; (try k_fold)))
local macro_rules | `(tactic| walk_at "call ref") => `(tactic| (k_here; (fail_if_success (with_reducible show wpAny _ _ (PySem.call _ (_ :: _) _) _ _ _)); (with_reducible show wpAny _ _ (PySem.call (Value.ref _) _ _) _ _ _); k_dflt (refine' names_use ?B ?F ?X ?N ?T ?hk ?hh ?hf ?hd ?hu ?hg ?_; (case hf => rfl); (case B => k_asm); (case F => k_asm); (case X => k_asm); (case N => k_asm); (case T => k_asm); (case hh => rfl); (case hk => rfl); (case hd => exact Nat.le_of_ble_eq_true rfl); (case hu => exact Nat.le_of_ble_eq_true rfl); (case hg => rfl)); intro d' o' kvs' h' tk' sm' hd' hf' l1 F' N'; (try k_lt l1); (try k_fold)))
abbrev fontDict (w : World) (k1 k2 k3 k4 k5 k6 k7 : Tok) (nm cu ro st : Value) (df : Int) (td : Tok) (UX : Addr) : Obj :=
  dictOf [⟨PyData.keyHash w.params (Str.ofString "names"), .str (Str.ofString "names") k1, nm⟩, ⟨PyData.keyHash w.params (Str.ofString "cutting"), .str (Str.ofString "cutting") k2, cu⟩,
    ⟨PyData.keyHash w.params (Str.ofString "unicode"), .str (Str.ofString "unicode") k3, .none⟩, ⟨PyData.keyHash w.params (Str.ofString "rows"), .str (Str.ofString "rows") k4, ro⟩,
    ⟨PyData.keyHash w.params (Str.ofString "default"), .str (Str.ofString "default") k5, .int df td⟩, ⟨PyData.keyHash w.params (Str.ofString "unit"), .str (Str.ofString "unit") k6, .ref UX⟩,
    ⟨PyData.keyHash w.params (Str.ofString "standard"), .str (Str.ofString "standard") k7, st⟩] 7
abbrev topW (gd : Option (List Code)) (env : Env) (outer : List Env) : Around := { topA gd env outer with depth := 315, units := 30 }
theorem news_head2 {h₀ h : Heap} {L : Addr} {a b : Addr × Obj} {R V : List (Addr × Obj)} (N : News h₀ L h (a :: b :: R)) (s : ∀ p ∈ V, p ∈ R) : News h₀ L h (a :: b :: V) := news_sub N fun p hp => by
  rcases List.mem_cons.mp hp with rfl | hp
  · exact .head _
  · rcases List.mem_cons.mp hp with rfl | hp
    · exact .tail _ (.head _)
    · exact .tail _ (.tail _ (s p hp))
theorem tup_truthy {prog : Program} {w : World} {A : Around} {E : Value → Shared → Prop} {s : Shared} {t L : Addr} {h₀ : Heap} {news : List (Addr × Obj)} {vs : List Value} {n : Nat} {b : Bool} {Q : Bool → Shared → Prop}
    (N : News h₀ L s.heap news) (hm : (t, tupObj vs n) ∈ news) (hz : vs.length ≤ 1000) (hb : (!vs.isEmpty) = b)
    (h : Q b { s with toks := s.toks + 1 + 1 }) : wpAny (model prog w) A (truthy (.ref t)) Q E s := by
  refine ktl_truthy (N _ hm).1 (by rw [List.size_toArray]; omega) ?_
  rw [List.isEmpty_toArray, hb]
  exact h
section
local macro_rules | `(tactic| walk_at "truthy ref") => `(tactic| (k_here; (with_reducible show wpAny _ _ (truthy (Value.ref _)) _ _ _); k_dflt (refine' tup_truthy ?N ?m ?z ?b ?_; (case N => k_asm); (case m => k_mem); (case z => first | exact Nat.le_of_ble_eq_true rfl | omega); (case b => first | assumption | rfl); k_whole)))
local macro_rules | `(tactic| walk_at "call ref") => `(tactic| (k_here; (with_reducible show wpAny _ _ (PySem.call (Value.ref _) [Value.ref _, Value.int _ _, Value.int _ _] _) _ _ _); k_dflt (refine' widthIn_use2 ?B ?F ?X ?N ?T ?hk ?hD ?hDR ?hcode ?hdf ?hh ?hf ?hd ?hu ?hg ?_; (case hf => rfl); (case B => k_asm); (case F => k_asm); (case X => k_asm); (case N => k_asm); (case T => k_asm); (case hD => assumption); (case hDR => repeat (first | assumption | refine sub_tail ?_)); (case hcode => omega); (case hdf => omega); (case hh => rfl); (case hk => rfl); (case hd => exact Nat.le_of_ble_eq_true rfl); (case hu => exact Nat.le_of_ble_eq_true rfl); (case hg => rfl)); intro t' h' tk' rb0' rb1' F' N'; (try k_fold)))
local macro_rules | `(tactic| walk_at "call ref") => `(tactic| (k_here; (with_reducible show wpAny _ _ (PySem.call (Value.ref _) [Value.int (_ * _) _, Value.int _ _] _) _ _ _); k_dflt (refine' dec_useM ?B ?F ?X ?N ?T ?hk ?f1 ?f2 ?g1 ?g2 ?p1 ?p2 ?hh ?hf ?hd ?hu ?hg ?_; (case hf => rfl); (case B => k_asm); (case F => k_asm); (case X => k_asm); (case N => k_asm); (case T => k_asm); (case f1 => omega); (case f2 => omega); (case g1 => omega); (case g2 => omega); (case p1 => omega); (case p2 => omega);  (case hh => rfl); (case hk => rfl); (case hd => exact Nat.le_of_ble_eq_true rfl); (case hu => exact Nat.le_of_ble_eq_true rfl); (case hg => rfl)); intro x' d' k1' k2' t' u1' p' u2' h' tk' l2 l1 dt0' dt1' dp0' dp1' dr' F' N'; (try k_lt l1); (try k_fold)))
local macro_rules | `(tactic| walk_at "call ref") => `(tactic| (k_here; (with_reducible show wpAny _ _ (PySem.call (Value.ref _) [Value.ref _, Value.str _ _] _) _ _ _); k_dflt (refine' stdWidth_use2 ?B ?F ?X ?N ?T ?hk ?hW ?hi ?hl ?hb ?hh ?hf ?hd ?hu ?hg ?_; (case hf => rfl); (case B => k_asm); (case F => k_asm); (case X => k_asm); (case N => k_asm); (case T => k_asm); (case hW => k_mem); (case hi => assumption); (case hl => assumption); (case hb => assumption); (case hh => rfl); (case hk => rfl); (case hd => exact Nat.le_of_ble_eq_true rfl); (case hu => exact Nat.le_of_ble_eq_true rfl); (case hg => rfl)); intro t' h' tk' rb0' rb1' F' N'; (try k_fold)))
local macro_rules | `(tactic| walk_at "call ref") => `(tactic| (k_here; (with_reducible show wpAny _ _ (PySem.call (Value.ref _) [Value.ref _, Value.ref _] _) _ _ _); k_dflt (refine' cidOf_use ?B ?F ?X ?N ?T ?hk ?hD ?hDR ?hPR ?hp1 ?hh ?hf ?hd ?hu ?hg ?_; (case hf => rfl); (case B => k_asm); (case F => k_asm); (case X => k_asm); (case N => k_asm); (case T => k_asm); (case hD => assumption); (case hPR => k_mem); (case hDR => repeat (first | assumption | refine sub_tail ?_)); (case hp1 => omega); (case hh => rfl); (case hk => rfl); (case hd => exact Nat.le_of_ble_eq_true rfl); (case hu => exact Nat.le_of_ble_eq_true rfl); (case hg => rfl)); intro t' h' tk' rb0' rb1' F' N'; (try k_fold)))
set_option maxHeartbeats 4000000 in
theorem width0_call {prog q0 : Program} {w : World} {loose : List Str} {mean : ExcName → Option Value} {mg mb : Str → Option Value} {gd : Option (List Code)}
    {cn : Str} {cs : Scope} {a : Addr} {ccd : Value} {cl : List (Str × Addr)} {outer : List Env} {A₀ : Around} {base h₀ : Heap} {L : Addr} {m : Str → Option Value} {s : Shared}
    {FT fd UX ud PR : Addr} {np : Nat} {k1 k2 k3 k4 k5 k6 k7 j1 j2 u1 u2 td tp0 tp1 : Tok} {df tu pu p0 p1 : Int} {ST RL : Addr} {ns : Nat} {nm : Value} {D : List (Addr × Obj)} {rs : List Row} {V : List (Addr × Obj)} {Q E : Value → Shared → Prop}
    (B : Below A₀ base outer h₀) (F : Fr h₀ L s.heap m) (X : (K0 w.params).In h₀) (N : News h₀ L s.heap V) (T : Top q0 loose mean mg mb h₀) (hk : cs.kind = .function)
    (hFT : (FT, instObj 301 fd) ∈ V) (hfd : (fd, fontDict w k1 k2 k3 k4 k5 k6 k7 nm .none (.ref RL) (.ref ST) df td UX) ∈ V) (hUX : (UX, instObj 143 ud) ∈ V) (hud : (ud, decDict w j1 j2 tu u1 pu u2) ∈ V) (hPR : (PR, tupObj [.int p0 tp0, .int p1 tp1] np) ∈ V)
    (hST : (ST, tupObj [] ns) ∈ V) (hD : RowsBlk RL D rs) (hDR : ∀ p ∈ D, p ∈ V)
    (hp1 : 0 ≤ p1 ∧ p1 < 24) (hdf : 0 ≤ df ∧ df < 1000) (htu : 0 ≤ tu ∧ tu < 10) (hpu : 0 ≤ pu ∧ pu ≤ 3)
    (ret : ∀ x d i1 i2 t v1 p v2 h' tk', d < x → (∀ q ∈ V, q.1 < d) → 0 ≤ t → t < 10000 → 0 ≤ p → p ≤ pu → DecRel (rowVal df p1 rs * tu) pu t p → Fr h₀ L h' m →
       News h₀ L h' ((x, instObj 143 d) :: (d, decDict w i1 i2 t v1 p v2) :: V) → Q (.ref x) { s with heap := h', toks := tk' }) :
    wpAny (model prog w) (topW gd (envX cn cs L a ccd cl) outer) (call (.ref 291) [.ref FT, .ref PR] []) Q E s := by
  have hfill : PySem.Challenge.rw_og0167_01 = PySem.Challenge.rw_og0167_01 → K0 = K0 → True := by k_fill; intros; trivial
  k_with_none
  have N0 : News h₀ L s.heap ((FT, instObj 301 fd) :: (fd, fontDict w k1 k2 k3 k4 k5 k6 k7 nm .none (.ref RL) (.ref ST) df td UX) :: (UX, instObj 143 ud) :: (ud, decDict w j1 j2 tu u1 pu u2) :: (PR, tupObj [.int p0 tp0, .int p1 tp1] np) :: (ST, tupObj [] ns) :: V) := fun p hp => by
    rcases List.mem_cons.mp hp with rfl | hp
    · exact N _ hFT
    rcases List.mem_cons.mp hp with rfl | hp
    · exact N _ hfd
    rcases List.mem_cons.mp hp with rfl | hp
    · exact N _ hUX
    rcases List.mem_cons.mp hp with rfl | hp
    · exact N _ hud
    rcases List.mem_cons.mp hp with rfl | hp
    · exact N _ hPR
    rcases List.mem_cons.mp hp with rfl | hp
    · exact N _ hST
    exact N _ hp
  clear N
  refine wpAny_call ?_
  k_dflt cell_enter
  k_steps
  rename News h₀ L _ _ => N9
  rename DecRel _ _ _ _ => r9
  rename _ < _ ∧ _ < _ ∧ _ < _ ∧ _ < _ ∧ _ < _ ∧ _ < _ ∧ _ < _ ∧ _ < _ ∧  AllLt _ V => l9
  refine' ret _ _ _ _ _ _ _ _ _ _ ?l2 ?l1 ?a ?b ?c ?d ?r ?F (news_head2 N9 ?n)
  case n => (repeat (first | exact fun p hp => hp | refine sub_tail ?_))
  case l2 => assumption
  case l1 => exact allLt_mem l9.2.2.2.2.2.2.2.2
  case r => simpa only [Int.zero_add] using r9
  case F => k_asm
  all_goals omega
set_option maxHeartbeats 4000000 in
theorem width1_call {prog q0 : Program} {w : World} {loose : List Str} {mean : ExcName → Option Value} {mg mb : Str → Option Value} {gd : Option (List Code)}
    {cn : Str} {cs : Scope} {a : Addr} {ccd : Value} {cl : List (Str × Addr)} {outer : List Env} {A₀ : Around} {base h₀ : Heap} {L : Addr} {m : Str → Option Value} {s : Shared}
    {FT fd UX ud PR : Addr} {np : Nat} {k1 k2 k3 k4 k5 k6 k7 j1 j2 u1 u2 td tp0 tp1 : Tok} {df tu pu p0 p1 : Int} {ST NM : Addr} {kw kn : Nat} {ro : Value} {vs us : List Value} {ws : List Int} {xs : List Str} {V : List (Addr × Obj)} {Q E : Value → Shared → Prop}
    (B : Below A₀ base outer h₀) (F : Fr h₀ L s.heap m) (X : (K0 w.params).In h₀) (N : News h₀ L s.heap V) (T : Top q0 loose mean mg mb h₀) (hk : cs.kind = .function)
    (hFT : (FT, instObj 301 fd) ∈ V) (hfd : (fd, fontDict w k1 k2 k3 k4 k5 k6 k7 (.ref NM) .none ro (.ref ST) df td UX) ∈ V) (hUX : (UX, instObj 143 ud) ∈ V) (hud : (ud, decDict w j1 j2 tu u1 pu u2) ∈ V) (hPR : (PR, tupObj [.int p0 tp0, .int p1 tp1] np) ∈ V)
    (hST : (ST, tupObj vs kw) ∈ V) (hNM : (NM, listOf us.toArray kn) ∈ V) (hi : IntsAre vs ws) (hl : ws.length = 97) (hb : ∀ k ∈ ws, 0 ≤ k ∧ k < 1000) (hus : StrsAre us xs) (hxl : xs.length = 256)
    (hp1 : 0 ≤ p1 ∧ p1 < 24) (hdf : 0 ≤ df ∧ df < 1000) (htu : 0 ≤ tu ∧ tu < 10) (hpu : 0 ≤ pu ∧ pu ≤ 3)
    (ret : ∀ x d i1 i2 t v1 p v2 h' tk', d < x → (∀ q ∈ V, q.1 < d) → 0 ≤ t → t < 10000 → 0 ≤ p → p ≤ pu → DecRel (stdVal ws (xs.getD p1.toNat PySem.Str.empty) * tu) pu t p → Fr h₀ L h' m →
       News h₀ L h' ((x, instObj 143 d) :: (d, decDict w i1 i2 t v1 p v2) :: V) → Q (.ref x) { s with heap := h', toks := tk' }) :
    wpAny (model prog w) (topW gd (envX cn cs L a ccd cl) outer) (call (.ref 291) [.ref FT, .ref PR] []) Q E s := by
  have hfill : PySem.Challenge.rw_og0167_01 = PySem.Challenge.rw_og0167_01 → K0 = K0 → True := by k_fill; intros; trivial
  k_with_none
  have N0 : News h₀ L s.heap ((FT, instObj 301 fd) :: (fd, fontDict w k1 k2 k3 k4 k5 k6 k7 (.ref NM) .none ro (.ref ST) df td UX) :: (UX, instObj 143 ud) :: (ud, decDict w j1 j2 tu u1 pu u2) :: (PR, tupObj [.int p0 tp0, .int p1 tp1] np) :: (ST, tupObj vs kw) :: (NM, listOf us.toArray kn) :: V) := fun p hp => by
    rcases List.mem_cons.mp hp with rfl | hp
    · exact N _ hFT
    rcases List.mem_cons.mp hp with rfl | hp
    · exact N _ hfd
    rcases List.mem_cons.mp hp with rfl | hp
    · exact N _ hUX
    rcases List.mem_cons.mp hp with rfl | hp
    · exact N _ hud
    rcases List.mem_cons.mp hp with rfl | hp
    · exact N _ hPR
    rcases List.mem_cons.mp hp with rfl | hp
    · exact N _ hST
    rcases List.mem_cons.mp hp with rfl | hp
    · exact N _ hNM
    exact N _ hp
  clear N
  have hvs : (!vs.isEmpty) = true := by
    have : vs.length = 97 := hi.length.trans hl
    cases vs with
    | nil => simp at this
    | cons _ _ => rfl
  have hvl : vs.length ≤ 1000 := by have := hi.length; omega
  refine wpAny_call ?_
  k_dflt cell_enter
  k_steps
  rename News h₀ L _ _ => N9
  rename DecRel _ _ _ _ => r9
  rename _ < _ ∧ _ < _ ∧ _ < _ ∧ _ < _ ∧ _ < _ ∧ _ < _ ∧ _ < _ ∧ _ < _ ∧ _ < _ ∧  AllLt _ V => l9
  refine' ret _ _ _ _ _ _ _ _ _ _ ?l2 ?l1 ?a ?b ?c ?d ?r ?F (news_head2 N9 ?n)
  case n => (repeat (first | exact fun p hp => hp | refine sub_tail ?_))
  case l2 => assumption
  case l1 => exact allLt_mem l9.2.2.2.2.2.2.2.2.2
  case r => simpa only [Int.zero_add] using r9
  case F => k_asm
  all_goals omega
set_option maxHeartbeats 4000000 in
theorem width2_call {prog q0 : Program} {w : World} {loose : List Str} {mean : ExcName → Option Value} {mg mb : Str → Option Value} {gd : Option (List Code)}
    {cn : Str} {cs : Scope} {a : Addr} {ccd : Value} {cl : List (Str × Addr)} {outer : List Env} {A₀ : Around} {base h₀ : Heap} {L : Addr} {m : Str → Option Value} {s : Shared}
    {FT fd UX ud PR : Addr} {np : Nat} {k1 k2 k3 k4 k5 k6 k7 j1 j2 u1 u2 td tp0 tp1 : Tok} {df tu pu p0 p1 : Int} {ST RL CT CL : Addr} {ns nc : Nat} {nm : Value} {D D2 : List (Addr × Obj)} {rs : List Row} {cds : List Cid} {V : List (Addr × Obj)} {Q E : Value → Shared → Prop}
    (B : Below A₀ base outer h₀) (F : Fr h₀ L s.heap m) (X : (K0 w.params).In h₀) (N : News h₀ L s.heap V) (T : Top q0 loose mean mg mb h₀) (hk : cs.kind = .function)
    (hFT : (FT, instObj 301 fd) ∈ V) (hfd : (fd, fontDict w k1 k2 k3 k4 k5 k6 k7 nm (.ref CT) (.ref RL) (.ref ST) df td UX) ∈ V) (hUX : (UX, instObj 143 ud) ∈ V) (hud : (ud, decDict w j1 j2 tu u1 pu u2) ∈ V) (hPR : (PR, tupObj [.int p0 tp0, .int p1 tp1] np) ∈ V)
    (hST : (ST, tupObj [] ns) ∈ V) (hCT : (CT, tupObj [.none, .ref CL] nc) ∈ V) (hD : RowsBlk RL D rs) (hDR : ∀ p ∈ D, p ∈ V) (hD2 : CidsBlk CL D2 cds) (hDR2 : ∀ p ∈ D2, p ∈ V)
    (hp1 : 0 ≤ p1 ∧ p1 < 24) (hdf : 0 ≤ df ∧ df < 1000) (htu : 0 ≤ tu ∧ tu < 10) (hpu : 0 ≤ pu ∧ pu ≤ 3)
    (ret : ∀ x d i1 i2 t v1 p v2 h' tk', d < x → (∀ q ∈ V, q.1 < d) → 0 ≤ t → t < 10000 → 0 ≤ p → p ≤ pu → DecRel (rowVal df (cidFold p0 p1 0 cds) rs * tu) pu t p → Fr h₀ L h' m →
       News h₀ L h' ((x, instObj 143 d) :: (d, decDict w i1 i2 t v1 p v2) :: V) → Q (.ref x) { s with heap := h', toks := tk' }) :
    wpAny (model prog w) (topW gd (envX cn cs L a ccd cl) outer) (call (.ref 291) [.ref FT, .ref PR] []) Q E s := by
  have hfill : PySem.Challenge.rw_og0167_01 = PySem.Challenge.rw_og0167_01 → K0 = K0 → True := by k_fill; intros; trivial
  k_with_none
  have N0 : News h₀ L s.heap ((FT, instObj 301 fd) :: (fd, fontDict w k1 k2 k3 k4 k5 k6 k7 nm (.ref CT) (.ref RL) (.ref ST) df td UX) :: (UX, instObj 143 ud) :: (ud, decDict w j1 j2 tu u1 pu u2) :: (PR, tupObj [.int p0 tp0, .int p1 tp1] np) :: (ST, tupObj [] ns) :: (CT, tupObj [.none, .ref CL] nc) :: V) := fun p hp => by
    rcases List.mem_cons.mp hp with rfl | hp
    · exact N _ hFT
    rcases List.mem_cons.mp hp with rfl | hp
    · exact N _ hfd
    rcases List.mem_cons.mp hp with rfl | hp
    · exact N _ hUX
    rcases List.mem_cons.mp hp with rfl | hp
    · exact N _ hud
    rcases List.mem_cons.mp hp with rfl | hp
    · exact N _ hPR
    rcases List.mem_cons.mp hp with rfl | hp
    · exact N _ hST
    rcases List.mem_cons.mp hp with rfl | hp
    · exact N _ hCT
    exact N _ hp
  clear N
  refine wpAny_call ?_
  k_dflt cell_enter
  k_steps
  rename News h₀ L _ _ => N9
  rename DecRel _ _ _ _ => r9
  rename _ < _ ∧ _ < _ ∧ _ < _ ∧ _ < _ ∧ _ < _ ∧ _ < _ ∧ _ < _ ∧ _ < _ ∧ _ < _ ∧  AllLt _ V => l9
  refine' ret _ _ _ _ _ _ _ _ _ _ ?l2 ?l1 ?a ?b ?c ?d ?r ?F (news_head2 N9 ?n)
  case n => (repeat (first | exact fun p hp => hp | refine sub_tail ?_))
  case l2 => assumption
  case l1 => exact allLt_mem l9.2.2.2.2.2.2.2.2.2
  case r => simpa only [Int.zero_add] using r9
  case F => k_asm
  all_goals omega
end
/-- the law's own def, its body, its last loop's body -/
def lawBody : List Stmt := match PySem.Challenge.pw_og0167_01.main.body.getLast? with
  | some (.FunctionDef _ _ b _ _ _ _ _ _ _) => b
  | _ => []
def lawScope : Scope := match PySem.Challenge.pw_og0167_01.main.body.getLast? with
  | some (.FunctionDef _ _ _ _ _ _ sc _ _ _) => sc
  | _ => PySem.Challenge.pw_og0167_01.main.scope
def turnBody : List Stmt := match lawBody.drop 10 with
  | .For _ _ b _ _ :: _ => b
  | _ => []
def pairStmt : Stmt := match turnBody with
  | st :: _ => st
  | _ => .Pass ⟨0, 0, 0, 0⟩
abbrev topT (gd : Option (List Code)) (env : Env) (outer : List Env) : Around := { topA gd env outer with depth := 310, units := 20 }
section
local macro_rules | `(tactic| k_ne) => `(tactic| (refine neN ?_; (try dsimp only); with_reducible (first | exact NeA.l (by assumption) | exact NeA.r (by assumption))))
set_option maxHeartbeats 4000000 in
theorem pair_walk {prog q0 : Program} {w : World} {loose : List Str} {mean : ExcName → Option Value} {mg mb : Str → Option Value} {gd : Option (List Code)}
    {fa : Addr} {ccd : Value} {outer : List Env} {A₀ : Around} {base h₀ : Heap} {L : Addr} {m : Str → Option Value} {s : Shared}
    {P C : Addr} {b : Nat} {oP oC o1 o2 o3 : Obj} {way : Int} {tway : Tok} {c3 : Option Value} {Z : List (Addr × Obj)} {Q : Flow → Shared → Prop} {E : Value → Shared → Prop} {sc : Scope} {ps : Stmt} {rb : List Stmt}
    (hsc : lawScope = sc) (hps : pairStmt = ps) (hw : way = 0 ∨ way = 1 ∨ way = 2)
    (B : Below A₀ base outer h₀) (F : Fr h₀ L s.heap m) (X : (K0 w.params).In h₀)
    (N : News h₀ L s.heap ((P, oP) :: (C, oC) :: (L + 1 + 1 + 1, o3) :: (L + 1 + 1, o2) :: (L + 1, o1) :: Z)) (T : Top q0 loose mean mg mb h₀)
    (po : Pot C b oP oC) (hb : b < 1000) (d1 : o1.data = .cell (some (.ref P))) (d2 : o2.data = .cell (some (.int way tway))) (d3 : o3.data = .cell c3)
    (hPC : @Ne Nat P C) (n1 : NeA (L + 1 + 1 + 1) P) (n2 : NeA (L + 1 + 1) P) (n3 : NeA (L + 1) P) (n4 : NeA (L + 1 + 1 + 1) C) (n5 : NeA (L + 1 + 1) C) (n6 : NeA (L + 1) C)
    (z1 : ∀ p ∈ Z, p.1 ≠ P) (z2 : ∀ p ∈ Z, p.1 ≠ C) (z3 : ∀ p ∈ Z, p.1 ≠ L + 1 + 1 + 1)
    (ret : ∀ PR np p0 t0 v t oP' oC' o3' h' tk', 1 ≤ p0 → p0 ≤ 2 → 0 ≤ v → v < 24 → Pot C (b + 2) oP' oC' → o3'.data = .cell (some (.ref PR)) → P < PR → C < PR → L + 1 + 1 + 1 < PR → (∀ p ∈ Z, p.1 < PR) → Fr h₀ L h' m →
       News h₀ L h' ((PR, tupObj [.int p0 t0, .int v t] np) :: (P, oP') :: (C, oC') :: (L + 1 + 1 + 1, o3') :: (L + 1 + 1, o2) :: (L + 1, o1) :: Z) →
       wpAny (model prog w) (topT gd (envOfC (Str.ofString "law") sc L fa ccd) outer) (execs rb (envOfC (Str.ofString "law") sc L fa ccd)) Q E { s with heap := h', toks := tk' }) :
    wpAny (model prog w) (topT gd (envOfC (Str.ofString "law") sc L fa ccd) outer) (execs (ps :: rb) (envOfC (Str.ofString "law") sc L fa ccd)) Q E s := by
  have hfill : PySem.Challenge.rw_og0167_01 = PySem.Challenge.rw_og0167_01 → K0 = K0 → True := by k_fill; intros; trivial
  k_with_none
  conv at hsc => lhs; whnf
  conv at hps => lhs; whnf
  subst hsc
  subst hps
  rcases hw with rfl | rfl | rfl
  all_goals k_steps
  all_goals (
    rename _ ∧ _ ∧ _ ∧ _ ∧ _ ∧ AllLt _ Z => l9
    rename News h₀ L _ (_ :: _ :: _ :: _ :: _ :: _ :: Z) => N9
    refine ret _ _ _ _ _ _ _ _ _ _ _ (by omega) (by omega) (by omega) (by omega) ?_ (by assumption) l9.1 l9.2.1 l9.2.2.1 (allLt_mem l9.2.2.2.2.2) (by k_asm) N9
    first | assumption | exact Pot.mono (by assumption) (by omega))
end
def testStmt : Stmt := match turnBody with
  | [_, _, st] => st
  | _ => .Pass ⟨0, 0, 0, 0⟩
/-- what Font.width hands back, told of the value f -/
def WidthAt (prog : Program) (w : World) (A : Around) (h₀ : Heap) (L FT PR : Addr) (V : List (Addr × Obj)) (f tu pu : Int) : Prop :=
  ∀ (s : Shared) (m : Str → Option Value) (Q E : Value → Shared → Prop), Fr h₀ L s.heap m → News h₀ L s.heap V →
    (∀ x d i1 i2 t v1 p v2 h' tk', d < x → (∀ q ∈ V, q.1 < d) → 0 ≤ t → t < 10000 → 0 ≤ p → p ≤ pu → DecRel (f * tu) pu t p → Fr h₀ L h' m →
       News h₀ L h' ((x, instObj 143 d) :: (d, decDict w i1 i2 t v1 p v2) :: V) → Q (.ref x) { s with heap := h', toks := tk' }) →
    wpAny (model prog w) A (call (.ref 291) [.ref FT, .ref PR] []) Q E s
theorem width_at {prog : Program} {w : World} {A : Around} {h₀ : Heap} {L FT PR : Addr} {m : Str → Option Value} {s : Shared} {V V' : List (Addr × Obj)} {f tu pu : Int} {Q E : Value → Shared → Prop}
    (hW : WidthAt prog w A h₀ L FT PR V f tu pu) (F : Fr h₀ L s.heap m) (N : News h₀ L s.heap V') (hV : ∀ p ∈ V, p ∈ V')
    (ret : ∀ x d i1 i2 t v1 p v2 h' tk', d < x → (∀ q ∈ V, q.1 < d) → 0 ≤ t → t < 10000 → 0 ≤ p → p ≤ pu → DecRel (f * tu) pu t p → Fr h₀ L h' m →
       News h₀ L h' ((x, instObj 143 d) :: (d, decDict w i1 i2 t v1 p v2) :: V) → Q (.ref x) { s with heap := h', toks := tk' }) :
    wpAny (model prog w) A (call (.ref 291) [.ref FT, .ref PR] []) Q E s := hW s m Q E F (news_sub N hV) ret
theorem fr_unsee {h₀ h : Heap} {L : Addr} {m : Str → Option Value} {y : Str} {v : Value} (F : Fr h₀ L h (fun z => if z = y then some v else m z)) (e : m y = some v) : Fr h₀ L h m := by
  have : (fun z => if z = y then some v else m z) = m := by
    funext z
    by_cases h : z = y
    · subst h; simp [e]
    · simp [h]
  rw [← this]; exact F
section
local macro_rules | `(tactic| walk_at "call ref") => `(tactic| (k_here; (with_reducible show wpAny _ _ (PySem.call (Value.ref _) [Value.int (_ * 1000) _, Value.int _ _] _) _ _ _); k_dflt (refine' dec_useK ?B ?F ?X ?N ?T ?hk ?f1 ?f2 ?p1 ?p2 ?hh ?hf ?hd ?hu ?hg ?_; (case hf => rfl); (case B => k_asm); (case F => k_asm); (case X => k_asm); (case N => k_asm); (case T => k_asm); (case f1 => omega); (case f2 => omega); (case p1 => omega); (case p2 => omega);  (case hh => rfl); (case hk => rfl); (case hd => exact Nat.le_of_ble_eq_true rfl); (case hu => exact Nat.le_of_ble_eq_true rfl); (case hg => rfl)); intro x' d' k1' k2' t' u1' p' u2' h' tk' l2 l1 dp0' dp1' dr' dn' F' N'; (try k_lt l1); (try k_fold)))
local macro_rules | `(tactic| walk_at "call ref") => `(tactic| (k_here; (with_reducible show wpAny _ _ (PySem.call (Value.ref _) [Value.ref _, Value.ref _] _) _ _ _); k_dflt (refine' width_at ?hW ?F ?N ?hV ?_; (case hW => assumption); (case F => k_asm); (case N => k_asm); (case hV => repeat (first | exact fun p hp => hp | refine sub_tail ?_))); intro x' d' k1' k2' t' u1' p' u2' h' tk' l2 l1 dt0' dt1' dp0' dp1' dr' F' N'; (try k_fold)))
set_option maxHeartbeats 4000000 in
theorem test_walk {prog q0 : Program} {w : World} {loose : List Str} {mean : ExcName → Option Value} {mg mb : Str → Option Value} {gd : Option (List Code)}
    {fa : Addr} {ccd : Value} {outer : List Env} {A₀ : Around} {base h₀ : Heap} {L : Addr} {m : Str → Option Value} {s : Shared}
    {FT fd UX PR : Addr} {k1 k2 k3 k4 k5 k6 k7 td tun tdue : Tok} {nm cu ro st : Value} {df f unit tu pu : Int} {o3 : Obj} {V : List (Addr × Obj)} {Q : Flow → Shared → Prop} {E : Value → Shared → Prop} {sc : Scope} {ts : Stmt}
    (hsc : lawScope = sc) (hts : testStmt = ts)
    (B : Below A₀ base outer h₀) (F : Fr h₀ L s.heap m) (X : (K0 w.params).In h₀) (N : News h₀ L s.heap V) (T : Top q0 loose mean mg mb h₀)
    (hFT : (FT, instObj 301 fd) ∈ V) (hfd : (fd, fontDict w k1 k2 k3 k4 k5 k6 k7 nm cu ro st df td UX) ∈ V) (hX3 : (L + 1 + 1 + 1, o3) ∈ V) (d3 : o3.data = .cell (some (.ref PR)))
    (e1 : m (Str.ofString "font") = some (.ref FT)) (e2 : m (Str.ofString "unit") = some (.int unit tun)) (e3 : m (Str.ofString "due") = some (.int f tdue))
    (hf : 0 ≤ f ∧ f < 1000) (hun : 1 ≤ unit ∧ unit < 10) (hu : DecRel unit 3 tu pu) (hpu : 0 ≤ pu ∧ pu ≤ 3)
    (hW : WidthAt prog w (topT gd (envOfC (Str.ofString "law") sc L fa ccd) outer) h₀ L FT PR V f tu pu)
    (ret : ∀ h' tk', Fr h₀ L h' m → News h₀ L h' V → Q .next { s with heap := h', toks := tk' }) :
    wpAny (model prog w) (topT gd (envOfC (Str.ofString "law") sc L fa ccd) outer) (execs [ts] (envOfC (Str.ofString "law") sc L fa ccd)) Q E s := by
  have hfill : PySem.Challenge.rw_og0167_01 = PySem.Challenge.rw_og0167_01 → K0 = K0 → True := by k_fill; intros; trivial
  k_with_none
  conv at hsc => lhs; whnf
  conv at hts => lhs; whnf
  subst hsc
  subst hts
  have N0 : News h₀ L s.heap ((FT, instObj 301 fd) :: (fd, fontDict w k1 k2 k3 k4 k5 k6 k7 nm cu ro st df td UX) :: (L + 1 + 1 + 1, o3) :: V) := fun p hp => by
    rcases List.mem_cons.mp hp with rfl | hp
    · exact N _ hFT
    rcases List.mem_cons.mp hp with rfl | hp
    · exact N _ hfd
    rcases List.mem_cons.mp hp with rfl | hp
    · exact N _ hX3
    exact N _ hp
  clear N
  have F0 := fr_see (fr_see (fr_see F _ e1) (Str.ofString "unit") ((if_neg (by decide)).trans e2)) (Str.ofString "due") ((if_neg (by decide)).trans ((if_neg (by decide)).trans e3))
  clear F
  k_steps
  · rename Fr h₀ L _ _ => F9
    rename News h₀ L _ (_ :: _ :: _) => N9
    refine ret _ _ (fr_unsee (fr_unsee (fr_unsee F9 ((if_neg (by decide)).trans ((if_neg (by decide)).trans e3))) ((if_neg (by decide)).trans e2)) e1) (news_sub N9 ?_)
    repeat (first | exact fun p hp => hp | refine sub_tail ?_)
  · exfalso
    rename (_ && _) = false => hcmp
    rename DecRel (_ * 1000) _ _ _ => r5
    rename DecRel (_ * tu) _ _ _ => r3
    rename NormD _ _ => n5
    have z := dec_law2 hu hpu.1 hpu.2 r3 rfl (by omega) (by omega) r5 (by omega) (by omega) (by omega) n5
    rw [z.1, z.2] at hcmp
    simp at hcmp
end
def dueStmt : Stmt := match turnBody with
  | [_, st, _] => st
  | _ => .Pass ⟨0, 0, 0, 0⟩
/-- the names that a turn's due stores -/
def DueKeeps (m m' : Str → Option Value) : Prop := ∀ y, y ≠ Str.ofString "due" → y ≠ Str.ofString "code" → y ≠ Str.ofString "place" → y ≠ Str.ofString "found" → m' y = m y
section
set_option maxHeartbeats 4000000 in
theorem due0_walk {prog q0 : Program} {w : World} {loose : List Str} {mean : ExcName → Option Value} {mg mb : Str → Option Value} {gd : Option (List Code)}
    {fa : Addr} {ccd : Value} {outer : List Env} {A₀ : Around} {base h₀ : Heap} {L : Addr} {m : Str → Option Value} {s : Shared}
    {PR RL : Addr} {np : Nat} {t0 t1 td tway : Tok} {p0 p1 df : Int} {o2 o3 : Obj} {D V : List (Addr × Obj)} {rs : List Row} {Q : Flow → Shared → Prop} {E : Value → Shared → Prop} {sc : Scope} {ts : Stmt} {rb : List Stmt}
    (hsc : lawScope = sc) (hts : dueStmt = ts)
    (B : Below A₀ base outer h₀) (F : Fr h₀ L s.heap m) (X : (K0 w.params).In h₀) (N : News h₀ L s.heap V) (T : Top q0 loose mean mg mb h₀)
    (hX3 : (L + 1 + 1 + 1, o3) ∈ V) (d3 : o3.data = .cell (some (.ref PR))) (hX2 : (L + 1 + 1, o2) ∈ V) (d2 : o2.data = .cell (some (.int 0 tway)))
    (hPR : (PR, tupObj [.int p0 t0, .int p1 t1] np) ∈ V) (hp1 : 0 ≤ p1 ∧ p1 < 24)
    (hD : RowsBlk RL D rs) (hDR : ∀ p ∈ D, p ∈ V)
    (e1 : m (Str.ofString "rows") = some (.ref RL)) (e2 : m (Str.ofString "default") = some (.int df td))
    (ret : ∀ m' h' tk' tdue, m' (Str.ofString "due") = some (.int (rowVal df p1 rs) tdue) → DueKeeps m m' → Fr h₀ L h' m' → News h₀ L h' V →
      wpAny (model prog w) (topT gd (envOfC (Str.ofString "law") sc L fa ccd) outer) (execs rb (envOfC (Str.ofString "law") sc L fa ccd)) Q E { s with heap := h', toks := tk' }) :
    wpAny (model prog w) (topT gd (envOfC (Str.ofString "law") sc L fa ccd) outer) (execs (ts :: rb) (envOfC (Str.ofString "law") sc L fa ccd)) Q E s := by
  have hfill : PySem.Challenge.rw_og0167_01 = PySem.Challenge.rw_og0167_01 → K0 = K0 → True := by k_fill; intros; trivial
  k_with_none
  conv at hsc => lhs; whnf
  conv at hts => lhs; whnf
  subst hsc
  subst hts
  have N0 : News h₀ L s.heap ((PR, tupObj [.int p0 t0, .int p1 t1] np) :: (L + 1 + 1 + 1, o3) :: (L + 1 + 1, o2) :: V) := fun p hp => by
    rcases List.mem_cons.mp hp with rfl | hp
    · exact N _ hPR
    rcases List.mem_cons.mp hp with rfl | hp
    · exact N _ hX3
    rcases List.mem_cons.mp hp with rfl | hp
    · exact N _ hX2
    exact N _ hp
  clear N
  have F0 := fr_see (fr_see F _ e1) (Str.ofString "default") ((if_neg (by decide)).trans e2)
  clear F
  k_steps
  rename Fr h₀ L _ _ => F9
  rename News h₀ L _ _ => N9
  refine ret _ _ _ _ (by exact rfl) (fun y h1 h2 h3 h4 => ?_) F9 (news_sub N9 ?_)
  · simp only [h1, h2, if_false]
    split
    · next h => rw [h, e2]
    split
    · next h => rw [h, e1]
    rfl
  · repeat (first | exact fun p hp => hp | refine sub_tail ?_)
end
/-- the number of a name by _law_names -/
def nameNo (x : Str) : Int := match PySem.Spec.lookup (.str x) namesD with
  | some (.int k) => k
  | _ => 0
theorem nameNo_look {x : Str} (h : x ∈ keys8) : PySem.Spec.lookup (.str x) namesD = some (.int (nameNo x)) := by
  simp only [keys8, List.mem_cons, List.not_mem_nil, or_false] at h
  rcases h with rfl | rfl | rfl | rfl | rfl | rfl | rfl | rfl <;> rfl
theorem nameNo_lt {x : Str} (h : x ∈ keys8) : nameNo x < 97 := by
  simp only [keys8, List.mem_cons, List.not_mem_nil, or_false] at h
  rcases h with rfl | rfl | rfl | rfl | rfl | rfl | rfl | rfl <;> decide +kernel
theorem std_of_no (ws : List Int) {x : Str} (h : x ∈ keys8) : stdVal ws x = if 0 ≤ nameNo x then ws.getD (nameNo x).toNat 0 else 0 := by
  have key : asc97.any (· == x) = decide (0 ≤ nameNo x) ∧ (0 ≤ nameNo x → asc97.findIdx (· == x) = (nameNo x).toNat) := by
    simp only [keys8, List.mem_cons, List.not_mem_nil, or_false] at h
    rcases h with rfl | rfl | rfl | rfl | rfl | rfl | rfl | rfl <;> decide +kernel
  unfold stdVal
  rw [key.1]
  by_cases h0 : 0 ≤ nameNo x
  · rw [if_pos h0, if_pos (decide_eq_true h0), key.2 h0]
  · rw [if_neg h0, if_neg (by simpa using h0)]
section
variable {prog : Program} {w : World} {A : Around} {E : Value → Shared → Prop} {s : Shared} {h₀ : Heap} {L : Addr} {news : List (Addr × Obj)} {Q : Value → Shared → Prop}
theorem names_item {value slice : PySem.Expr} {d : Addr} {o : Obj} {kvs : List (Str × Value)} {x : Str} {t : Tok} (N : News h₀ L s.heap news) (hm : (d, o) ∈ news) (sm : (d == sysModules) = false) (hd : Obj.IsDictOf (PySem.strKind prog w) o kvs) (hf : PyProof.V.FlatPairs PyData.str kvs namesD)
    (hh : A.handled = none) (hx : x ∈ keys8) (h : ∀ t', Q (.int (nameNo x) t') { s with toks := s.toks + 1 })
    (hs : subscripted slice false (.ref d) (.str x t) = operate [.ref d, .str x t] (getItem (.ref d) (.str x t)) := by with_unfolding_all rfl) :
    wpAny (model prog w) A (subscriptTail value slice (.ref d) (.str x t)) Q E s := by
  refine item_strTab_split_any (TabAt.ofNews N hm sm hd hf) hh (fun dv hl v hv => ?_) (fun hl => ?_) hs
  · rw [nameNo_look hx] at hl
    cases hl
    obtain ⟨t', rfl⟩ := hv.int_inv
    exact h t'
  · rw [nameNo_look hx] at hl
    cases hl
theorem std_item {value slice : PySem.Expr} {W : Addr} {kw : Nat} {vs : List Value} {ws : List Int} {k : Int} {t : Tok} (N : News h₀ L s.heap news) (hm : (W, tupObj vs kw) ∈ news) (hi : IntsAre vs ws) (hl : ws.length = 97) (h0 : 0 ≤ k) (h1 : k < 97)
    (h : ∀ t', Q (.int (ws.getD k.toNat 0) t') s)
    (hs : subscripted slice false (.ref W) (.int k t) = operate [.ref W, .int k t] (getItem (.ref W) (.int k t)) := by with_unfolding_all rfl) :
    wpAny (model prog w) A (subscriptTail value slice (.ref W) (.int k t)) Q E s := by
  have hvl : vs.length = 97 := hi.length.trans hl
  obtain ⟨tt, hx⟩ := hi.get k.toNat (ws.getD k.toNat 0) (by rw [List.getD_eq_getElem?_getD, List.getElem?_eq_getElem (by omega)]; rfl)
  exact item_tupleT (News.isTup N hm) (by omega) (by omega) (seqIndex_of (by omega) (by omega)) hx (h tt) hs
end
section
local macro_rules | `(tactic| walk_at "subscriptTail") => `(tactic| (k_here; (with_reducible show wpAny _ _ (subscriptTail _ _ (Value.ref _) (Value.int (nameNo _) _)) _ _ _); k_dflt (refine' std_item ?N ?m ?i ?l ?h0 ?h1 ?_; (case N => k_asm); (case m => k_mem); (case i => assumption); (case l => assumption); (case h0 => omega); (case h1 => assumption)); intro t'))
local macro_rules | `(tactic| walk_at "subscriptTail") => `(tactic| (k_here; (with_reducible show wpAny _ _ (subscriptTail _ _ (Value.ref _) (Value.str _ _)) _ _ _); k_dflt (refine' names_item ?N ?m ?sm ?hd ?hf ?hh ?hx ?_; (case N => k_asm); (case m => k_mem); (case sm => assumption); (case hd => assumption); (case hf => assumption); (case hh => rfl); (case hx => assumption)); intro t'))
set_option maxHeartbeats 4000000 in
theorem due1_walk {prog q0 : Program} {w : World} {loose : List Str} {mean : ExcName → Option Value} {mg mb : Str → Option Value} {gd : Option (List Code)}
    {fa : Addr} {ccd : Value} {outer : List Env} {A₀ : Around} {base h₀ : Heap} {L : Addr} {m : Str → Option Value} {s : Shared}
    {PR ST NM : Addr} {np kw kn : Nat} {t0 t1 tway : Tok} {p0 p1 : Int} {o2 o3 : Obj} {V : List (Addr × Obj)} {vs us : List Value} {ws : List Int} {xs : List Str} {Q : Flow → Shared → Prop} {E : Value → Shared → Prop} {sc : Scope} {ts : Stmt} {rb : List Stmt}
    (hsc : lawScope = sc) (hts : dueStmt = ts)
    (B : Below A₀ base outer h₀) (F : Fr h₀ L s.heap m) (X : (K0 w.params).In h₀) (N : News h₀ L s.heap V) (T : Top q0 loose mean mg mb h₀)
    (hX3 : (L + 1 + 1 + 1, o3) ∈ V) (d3 : o3.data = .cell (some (.ref PR))) (hX2 : (L + 1 + 1, o2) ∈ V) (d2 : o2.data = .cell (some (.int 1 tway)))
    (hPR : (PR, tupObj [.int p0 t0, .int p1 t1] np) ∈ V) (hp1 : 0 ≤ p1 ∧ p1 < 24)
    (hST : (ST, tupObj vs kw) ∈ V) (hNM : (NM, listOf us.toArray kn) ∈ V) (hi : IntsAre vs ws) (hl : ws.length = 97) (hus : StrsAre us xs) (hxl : xs.length = 256) (hxs : ∀ x ∈ xs, x ∈ keys8)
    (e1 : m (Str.ofString "names") = some (.ref NM)) (e2 : m (Str.ofString "standard") = some (.ref ST))
    (ret : ∀ m' h' tk' tdue, m' (Str.ofString "due") = some (.int (stdVal ws (xs.getD p1.toNat PySem.Str.empty)) tdue) → DueKeeps m m' → Fr h₀ L h' m' → News h₀ L h' V →
      wpAny (model prog w) (topT gd (envOfC (Str.ofString "law") sc L fa ccd) outer) (execs rb (envOfC (Str.ofString "law") sc L fa ccd)) Q E { s with heap := h', toks := tk' }) :
    wpAny (model prog w) (topT gd (envOfC (Str.ofString "law") sc L fa ccd) outer) (execs (ts :: rb) (envOfC (Str.ofString "law") sc L fa ccd)) Q E s := by
  have hfill : PySem.Challenge.rw_og0167_01 = PySem.Challenge.rw_og0167_01 → K0 = K0 → True := by k_fill; intros; trivial
  k_with_none
  conv at hsc => lhs; whnf
  conv at hts => lhs; whnf
  subst hsc
  subst hts
  have N0 : News h₀ L s.heap ((ST, tupObj vs kw) :: (NM, listOf us.toArray kn) :: (PR, tupObj [.int p0 t0, .int p1 t1] np) :: (L + 1 + 1 + 1, o3) :: (L + 1 + 1, o2) :: V) := fun p hp => by
    rcases List.mem_cons.mp hp with rfl | hp
    · exact N _ hST
    rcases List.mem_cons.mp hp with rfl | hp
    · exact N _ hNM
    rcases List.mem_cons.mp hp with rfl | hp
    · exact N _ hPR
    rcases List.mem_cons.mp hp with rfl | hp
    · exact N _ hX3
    rcases List.mem_cons.mp hp with rfl | hp
    · exact N _ hX2
    exact N _ hp
  clear N
  have F0 := fr_see (fr_see F _ e1) (Str.ofString "standard") ((if_neg (by decide)).trans e2)
  clear F
  have hx9 : xs.getD p1.toNat PySem.Str.empty ∈ keys8 := by
    rw [List.getD_eq_getElem?_getD, List.getElem?_eq_getElem (by omega)]
    exact hxs _ (List.getElem_mem _)
  have hx97 := nameNo_lt hx9
  have hsv := std_of_no ws hx9
  have hul : us.length = 256 := hus.len_eq.trans hxl
  k_steps
  all_goals (
    rename Fr h₀ L _ _ => F9
    rename News h₀ L _ _ => N9
    refine ret _ _ _ _ (Eq.trans (by exact rfl) (congrArg (fun z => some (Value.int z _)) (hsv.trans ?_).symm)) (fun y h1 h2 h3 h4 => ?_) F9 (news_sub N9 ?_)
    · first | (rw [if_pos (by omega)]; done) | (rw [if_neg (by omega)]; done)
    · simp only [h1, h2, h3, if_false]
      split
      · next h => rw [h, e2]
      split
      · next h => rw [h, e1]
      rfl
    · repeat (first | exact fun p hp => hp | refine sub_tail ?_))
end
theorem cidFold_bnd {p0 p1 : Int} (hp : 0 ≤ p1 ∧ p1 < 24) : ∀ {cs : List Cid} {f : Int}, (∀ c ∈ cs, c.Ok) → 0 ≤ f ∧ f < 1000 → 0 ≤ cidFold p0 p1 f cs ∧ cidFold p0 p1 f cs < 1000
  | [], _, _, hf => hf
  | c :: cs, f, h, hf => by
    unfold cidFold
    refine cidFold_bnd hp (fun q hq => h q (.tail _ hq)) ?_
    obtain ⟨_, k2, k3, k4⟩ := h c (.head _)
    split
    · next hh =>
      simp only [Cid.has, Bool.and_eq_true, decide_eq_true_eq] at hh
      omega
    · exact hf
theorem lst_truthy {prog : Program} {w : World} {A : Around} {E : Value → Shared → Prop} {s : Shared} {t L : Addr} {h₀ : Heap} {news : List (Addr × Obj)} {vs : List Value} {n : Nat} {b : Bool} {Q : Bool → Shared → Prop}
    (N : News h₀ L s.heap news) (hm : (t, listOf vs.toArray n) ∈ news) (hz : vs.length ≤ 1000) (hb : (!vs.isEmpty) = b)
    (h : Q b { s with toks := s.toks + 1 + 1 }) : wpAny (model prog w) A (truthy (.ref t)) Q E s := by
  refine wpAny_truthy_list (News.isList N hm) (by rw [List.size_toArray]; omega) ?_
  rw [List.isEmpty_toArray, hb]
  exact h
theorem last_item {prog : Program} {w : World} {A : Around} {E : Value → Shared → Prop} {s : Shared} {D L : Addr} {h₀ : Heap} {news : List (Addr × Obj)} {ys : List Value} {ks : List Int} {n : Nat} {c : Int} {t : Tok} {value slice : PySem.Expr} {Q : Value → Shared → Prop}
    (N : News h₀ L s.heap news) (hm : (D, listOf ys.toArray n) ∈ news) (hks : IntsAre ys ks) (h1 : 1 ≤ ks.length) (hl : ks.length ≤ 3) (hc : ks.getLastD 0 = c) (h : ∀ t', Q (.int c t') s)
    (hs : subscripted slice false (.ref D) (.int (-1) t) = operate [.ref D, .int (-1) t] (getItem (.ref D) (.int (-1) t)) := by with_unfolding_all rfl) :
    wpAny (model prog w) A (subscriptTail value slice (.ref D) (.int (-1) t)) Q E s := by
  have hyl : ys.length = ks.length := hks.length
  obtain ⟨t', hx⟩ := hks.get (ks.length - 1) c (by
    rw [← hc, List.getLastD_eq_getLast?, List.getLast?_eq_getElem?, List.getElem?_eq_getElem (by omega)]; rfl)
  have e : ((-1 : Int) + (ys.length : Int)).toNat = ks.length - 1 := by omega
  exact kde_neg (News.isList N hm) (by decide) (by decide) (seqIndex_neg (by decide) (by omega)) (by rw [e]; exact hx) (h t') hs
section
local macro_rules | `(tactic| walk_at "subscriptTail") => `(tactic| (k_here; (with_reducible show wpAny _ _ (subscriptTail _ _ (Value.ref _) (Value.int 0 _)) _ _ _); k_dflt (refine' item_tupleT (l := [_, _]) (j := 0) ?t ?lo ?hi ?hj ?hx ?_; (case t => exact News.isTup (by k_asm) (by k_mem)); (case lo => decide); (case hi => decide); (case hj => rfl); (case hx => rfl))))
local macro_rules | `(tactic| walk_at "exec Assign cons ListComp") => `(tactic| (k_here;  k_dflt (refine' assign_comp4 ?F0 ?hLe ?hsw ?hclos ?hcell ?hkind ?hnames ?h1 ?h2 ?h3 ?h4 ?hnd ?hy ?hp ?_; (case F0 => k_asm); (case hLe => rfl); (case hsw => with_unfolding_all rfl); (case hclos => with_unfolding_all rfl); (case hcell => decide); (case hkind => rfl); (case hnames => decide); (case h1 => rfl); (case h2 => rfl); (case h3 => rfl); (case h4 => rfl); (case hnd => decide); (case hy => rfl); (case hp => rfl))))
local macro_rules | `(tactic| walk_at "CompEnd") => `(tactic| refine halt ?_)
local macro_rules | `(tactic| walk_at "truthy ref") => `(tactic| (k_here; (with_reducible show wpAny _ _ (truthy (Value.ref _)) _ _ _); k_dflt (refine' lst_truthy ?N ?m ?z ?b ?_; (case N => k_asm); (case m => k_mem); (case z => first | exact Nat.le_of_ble_eq_true rfl | omega); (case b => rfl); k_whole)))
local macro_rules | `(tactic| walk_at "subscriptTail Name UnaryOp ref int") => `(tactic| (k_here; (with_reducible show wpAny _ _ (subscriptTail _ _ (Value.ref _) (Value.int (-1) _)) _ _ _); k_dflt (refine' last_item ?N ?m ?k ?l1 ?l2 ?c ?_; (case N => k_asm); (case m => k_mem); (case k => assumption); (case l1 => omega); (case l2 => omega); (case c => assumption)); intro t'))
set_option maxHeartbeats 1000000 in
theorem due2_walk {prog q0 : Program} {w : World} {loose : List Str} {mean : ExcName → Option Value} {mg mb : Str → Option Value} {gd : Option (List Code)}
    {fa : Addr} {ccd : Value} {outer : List Env} {A₀ : Around} {base h₀ : Heap} {L : Addr} {m : Str → Option Value} {s : Shared}
    {PR RL CL : Addr} {np : Nat} {t0 t1 td tway : Tok} {p0 p1 df : Int} {o2 o3 : Obj} {D D2 V : List (Addr × Obj)} {rs : List Row} {cds : List Cid} {Q : Flow → Shared → Prop} {E : Value → Shared → Prop} {sc : Scope} {ts : Stmt} {rb : List Stmt}
    (hsc : lawScope = sc) (hts : dueStmt = ts)
    (B : Below A₀ base outer h₀) (F : Fr h₀ L s.heap m) (X : (K0 w.params).In h₀) (N : News h₀ L s.heap V) (T : Top q0 loose mean mg mb h₀)
    (hX3 : (L + 1 + 1 + 1, o3) ∈ V) (d3 : o3.data = .cell (some (.ref PR))) (hX2 : (L + 1 + 1, o2) ∈ V) (d2 : o2.data = .cell (some (.int 2 tway)))
    (hPR : (PR, tupObj [.int p0 t0, .int p1 t1] np) ∈ V) (hp1 : 0 ≤ p1 ∧ p1 < 24)
    (hD : RowsBlk RL D rs) (hDR : ∀ p ∈ D, p ∈ V) (hD2 : CidsBlk CL D2 cds) (hDR2 : ∀ p ∈ D2, p ∈ V)
    (e1 : m (Str.ofString "rows") = some (.ref RL)) (e2 : m (Str.ofString "default") = some (.int df td)) (e3 : m (Str.ofString "cids") = some (.ref CL))
    (ret : ∀ m' h' tk' tdue, m' (Str.ofString "due") = some (.int (rowVal df (cidFold p0 p1 0 cds) rs) tdue) → DueKeeps m m' → Fr h₀ L h' m' → News h₀ L h' V →
      wpAny (model prog w) (topT gd (envOfC (Str.ofString "law") sc L fa ccd) outer) (execs rb (envOfC (Str.ofString "law") sc L fa ccd)) Q E { s with heap := h', toks := tk' }) :
    wpAny (model prog w) (topT gd (envOfC (Str.ofString "law") sc L fa ccd) outer) (execs (ts :: rb) (envOfC (Str.ofString "law") sc L fa ccd)) Q E s := by
  have hfill : PySem.Challenge.rw_og0167_01 = PySem.Challenge.rw_og0167_01 → K0 = K0 → True := by k_fill; intros; trivial
  k_with_none
  conv at hsc => lhs; whnf
  conv at hts => lhs; whnf
  subst hsc
  subst hts
  have N0 : News h₀ L s.heap ((PR, tupObj [.int p0 t0, .int p1 t1] np) :: (L + 1 + 1 + 1, o3) :: (L + 1 + 1, o2) :: V) := fun p hp => by
    rcases List.mem_cons.mp hp with rfl | hp
    · exact N _ hPR
    rcases List.mem_cons.mp hp with rfl | hp
    · exact N _ hX3
    rcases List.mem_cons.mp hp with rfl | hp
    · exact N _ hX2
    exact N _ hp
  clear N
  have F0 := fr_see (fr_see (fr_see F _ e1) (Str.ofString "default") ((if_neg (by decide)).trans e2)) (Str.ofString "cids") ((if_neg (by decide)).trans ((if_neg (by decide)).trans e3))
  clear F
  k_steps
  rename Fr h₀ L _ _ => F9
  rename News h₀ L _ _ => N9
  refine c4src_cids p0 p1 rfl F9 N9 hD2 (sub_tail (sub_tail (sub_tail hDR2))) ?_ ?_
  · intro q y1 y2 y3 y4 g I oI C oC D' m₂ ys h tk E' hok hC hx1 hx2 hx3 hx4 F' N' off ne
    obtain ⟨ok1, ok2, ok3, ok4⟩ := hok
    clear F9 N9
    k_steps
    all_goals unfold Halt
    all_goals refine LCg.CompEnd.intro (by assumption) (by assumption) _ (by kcf_all) (by assumption) rfl ?_
    all_goals first
      | (refine ⟨?_, _, rfl⟩; simp only [Cid.has, Bool.and_eq_true, decide_eq_true_eq]; omega)
      | (simp only [Cid.has, Bool.and_eq_false_iff, decide_eq_false_iff_not]; omega)
  · intro D' h tk ys ks hks hkl hlast F' N' off
    have hcb : 0 ≤ cidFold p0 p1 0 cds ∧ cidFold p0 p1 0 cds < 1000 := by
      obtain ⟨_, _, _, _, _, hok⟩ := hD2
      exact cidFold_bnd hp1 hok (by decide)
    clear F9 N9
    have hyl : ys.length = ks.length := hks.length
    cases ys with
    | nil =>
      cases hks
      have hl0 : cidFold p0 p1 0 cds = 0 := hlast.symm
      rw [hl0] at ret
      k_steps
      rename Fr h₀ L _ _ => F9
      rename News h₀ L _ _ => N9
      refine ret _ _ _ _ (by exact rfl) (fun y h1 h2 h3 h4 => ?_) F9 (news_sub N9 ?_)
      · simp only [h1, h2, h4, if_false]
        split
        · next h => rw [h, e3]
        split
        · next h => rw [h, e2]
        split
        · next h => rw [h, e1]
        rfl
      · repeat (first | exact fun p hp => hp | refine sub_tail ?_)
    | cons y ys =>
      simp only [List.length_cons] at hyl
      k_steps
      rename Fr h₀ L _ _ => F9
      rename News h₀ L _ _ => N9
      refine ret _ _ _ _ (by exact rfl) (fun y h1 h2 h3 h4 => ?_) F9 (news_sub N9 ?_)
      · simp only [h1, h2, h4, if_false]
        split
        · next h => rw [h, e3]
        split
        · next h => rw [h, e2]
        split
        · next h => rw [h, e1]
        rfl
      · repeat (first | exact fun p hp => hp | refine sub_tail ?_)
end
theorem turn_parts : turnBody = [pairStmt, dueStmt, testStmt] := by
  conv => lhs; whnf
  conv => rhs; arg 1; whnf
  conv => rhs; arg 2; arg 1; whnf
  conv => rhs; arg 2; arg 2; arg 1; whnf
theorem names256 {xs : List Str} (hl : xs.length = (24 - 0 : Int).toNat) (hb : ∀ x ∈ xs, x ∈ keys8) : (xs ++ List.replicate 232 (Str.ofString "")).length = 256 ∧ ∀ x ∈ xs ++ List.replicate 232 (Str.ofString ""), x ∈ keys8 := by
  refine ⟨by rw [List.length_append, List.length_replicate, hl]; rfl, fun x hx => ?_⟩
  rcases List.mem_append.mp hx with hx | hx
  · exact hb x hx
  · rw [List.eq_of_mem_replicate hx]
    simp [keys8]
theorem pot_ne_tup {C : Addr} {b : Nat} {oP oC : Obj} {vs : List Value} {n : Nat} (po : Pot C b oP oC) : tupObj vs n ≠ oP ∧ tupObj vs n ≠ oC := by
  obtain ⟨_, _, _, _, _, _, _, _, e1, e2, _⟩ := po
  subst e1
  subst e2
  exact ⟨fun e => absurd (congrArg Obj.cls e) (by simp [W.listOf]), fun e => absurd (congrArg Obj.cls e) (by simp [W.listOf])⟩
theorem cell_ne_tup {o : Obj} {c : Option Value} {vs : List Value} {n : Nat} (d : o.data = .cell c) : tupObj vs n ≠ o := fun e => by
  subst e
  cases d
theorem lawScope_fn : lawScope.kind = .function := rfl
theorem turn0_walk {prog q0 : Program} {w : World} {loose : List Str} {mean : ExcName → Option Value} {mg mb : Str → Option Value} {gd : Option (List Code)}
    {fa : Addr} {ccd : Value} {outer : List Env} {A₀ : Around} {base h₀ : Heap} {L : Addr} {m : Str → Option Value} {s : Shared}
    {P C FT fd UX ud ST : Addr} {b : Nat} {k1 k2 k3 k4 k5 k6 k7 j1 j2 u1 u2 td tun tway : Tok} {oP oC o1 o2 o3 : Obj} {c3 : Option Value} {df unit tu pu : Int} {Z : List (Addr × Obj)} {Q : Flow → Shared → Prop} {E : Value → Shared → Prop}
    {RL : Addr} {ns : Nat} {nm : Value} {D : List (Addr × Obj)} {rs : List Row}
    (B : Below A₀ base outer h₀) (F : Fr h₀ L s.heap m) (X : (K0 w.params).In h₀)
    (N : News h₀ L s.heap ((P, oP) :: (C, oC) :: (L + 1 + 1 + 1, o3) :: (L + 1 + 1, o2) :: (L + 1, o1) :: Z)) (T : Top q0 loose mean mg mb h₀)
    (po : Pot C b oP oC) (hb : b < 1000) (d1 : o1.data = .cell (some (.ref P))) (d2 : o2.data = .cell (some (.int 0 tway))) (d3 : o3.data = .cell c3)
    (hPC : @Ne Nat P C) (n1 : NeA (L + 1 + 1 + 1) P) (n2 : NeA (L + 1 + 1) P) (n3 : NeA (L + 1) P) (n4 : NeA (L + 1 + 1 + 1) C) (n5 : NeA (L + 1 + 1) C) (n6 : NeA (L + 1) C)
    (z1 : ∀ p ∈ Z, p.1 ≠ P) (z2 : ∀ p ∈ Z, p.1 ≠ C) (z3 : ∀ p ∈ Z, p.1 ≠ L + 1 + 1 + 1)
    (hFT : (FT, instObj 301 fd) ∈ Z) (hfd : (fd, fontDict w k1 k2 k3 k4 k5 k6 k7 nm .none (.ref RL) (.ref ST) df td UX) ∈ Z) (hUX : (UX, instObj 143 ud) ∈ Z) (hud : (ud, decDict w j1 j2 tu u1 pu u2) ∈ Z)
    (hST : (ST, tupObj [] ns) ∈ Z) (hD : RowsBlk RL D rs) (hDR : ∀ p ∈ D, p ∈ Z)
    (e3 : m (Str.ofString "rows") = some (.ref RL)) (e4 : m (Str.ofString "default") = some (.int df td)) (hdf : 0 ≤ df ∧ df < 1000)
    (e1 : m (Str.ofString "font") = some (.ref FT)) (e2 : m (Str.ofString "unit") = some (.int unit tun))
    (hun : 1 ≤ unit ∧ unit < 10) (hu : DecRel unit 3 tu pu) (htu : 0 ≤ tu ∧ tu < 10) (hpu : 0 ≤ pu ∧ pu ≤ 3)
    (fin : ∀ oP' oC' o3' c3' m' h' tk', Pot C (b + 2) oP' oC' → o3'.data = .cell c3' → DueKeeps m m' → Fr h₀ L h' m' →
      News h₀ L h' ((P, oP') :: (C, oC') :: (L + 1 + 1 + 1, o3') :: (L + 1 + 1, o2) :: (L + 1, o1) :: Z) → Q .next { s with heap := h', toks := tk' }) :
    wpAny (model prog w) (topT gd (envOfC (Str.ofString "law") lawScope L fa ccd) outer) (execs turnBody (envOfC (Str.ofString "law") lawScope L fa ccd)) Q E s := by
  rw [turn_parts]
  refine pair_walk rfl rfl (by omega) B F X N T po hb d1 d2 d3 hPC n1 n2 n3 n4 n5 n6 z1 z2 z3 ?_
  intro PR np p0 t0 v t oP' oC' o3' h1 tk1 q1 q2 a0 a1 po1 d31 l1 l2 l3 lz F1 N1
  have lift : ∀ D : List (Addr × Obj), (∀ p ∈ D, p ∈ Z) → ∀ p ∈ D, p ∈ (PR, tupObj [.int p0 t0, .int v t] np) :: (P, oP') :: (C, oC') :: (L + 1 + 1 + 1, o3') :: (L + 1 + 1, o2) :: (L + 1, o1) :: Z := fun D h => sub_tail (sub_tail (sub_tail (sub_tail (sub_tail (sub_tail h)))))
  have lift1 : ∀ {p : Addr × Obj}, p ∈ Z → p ∈ (PR, tupObj [.int p0 t0, .int v t] np) :: (P, oP') :: (C, oC') :: (L + 1 + 1 + 1, o3') :: (L + 1 + 1, o2) :: (L + 1, o1) :: Z := fun {p} h => lift Z (fun _ h => h) p h
  have hPR : (PR, tupObj [.int p0 t0, .int v t] np) ∈ (PR, tupObj [.int p0 t0, .int v t] np) :: (P, oP') :: (C, oC') :: (L + 1 + 1 + 1, o3') :: (L + 1 + 1, o2) :: (L + 1, o1) :: Z := .head _
  have hX3 : (L + 1 + 1 + 1, o3') ∈ (PR, tupObj [.int p0 t0, .int v t] np) :: (P, oP') :: (C, oC') :: (L + 1 + 1 + 1, o3') :: (L + 1 + 1, o2) :: (L + 1, o1) :: Z := .tail _ (.tail _ (.tail _ (.head _)))
  have hX2 : (L + 1 + 1, o2) ∈ (PR, tupObj [.int p0 t0, .int v t] np) :: (P, oP') :: (C, oC') :: (L + 1 + 1 + 1, o3') :: (L + 1 + 1, o2) :: (L + 1, o1) :: Z := .tail _ (.tail _ (.tail _ (.tail _ (.head _))))
  generalize hV : (PR, tupObj [.int p0 t0, .int v t] np) :: (P, oP') :: (C, oC') :: (L + 1 + 1 + 1, o3') :: (L + 1 + 1, o2) :: (L + 1, o1) :: Z = V at N1 lift lift1 hPR hX3 hX2
  refine due0_walk rfl rfl B F1 X N1 T hX3 d31 hX2 d2 hPR ⟨a0, a1⟩ hD (lift _ hDR) e3 e4 ?_
  intro m2 h2 tk2 tdue e9 keep F2 N2
  have hW : WidthAt prog w (topT gd (envOfC (Str.ofString "law") lawScope L fa ccd) outer) h₀ L FT PR V (rowVal df v rs) tu pu := by
    intro s3 m3 Q3 E3 F3 N3 ret3
    refine wpAny_wider (A' := topW gd (envX (Str.ofString "law") lawScope L fa ccd (cellsFrom (L + 1) lawScope.names [])) outer) ?_ rfl (Nat.le_of_ble_eq_true rfl) rfl rfl (Nat.le_of_ble_eq_true rfl)
    exact width0_call B F3 X N3 T lawScope_fn (lift1 hFT) (lift1 hfd) (lift1 hUX) (lift1 hud) hPR (lift1 hST) hD (lift _ hDR) ⟨a0, a1⟩ hdf htu hpu ret3
  refine test_walk rfl rfl B F2 X N2 T (lift1 hFT) (lift1 hfd) hX3 d31 ((keep _ (by decide) (by decide) (by decide) (by decide)).trans e1) ((keep _ (by decide) (by decide) (by decide) (by decide)).trans e2) e9 (rowVal_bnd hdf (by obtain ⟨_, _, _, _, _, hok⟩ := hD; exact hok)) hun hu hpu hW ?_
  intro h3 tk3 F3 N3
  refine fin oP' oC' o3' _ m2 h3 tk3 po1 d31 keep F3 (news_sub N3 ?_)
  rw [← hV]
  exact sub_tail fun p hp => hp
theorem turn1_walk {prog q0 : Program} {w : World} {loose : List Str} {mean : ExcName → Option Value} {mg mb : Str → Option Value} {gd : Option (List Code)}
    {fa : Addr} {ccd : Value} {outer : List Env} {A₀ : Around} {base h₀ : Heap} {L : Addr} {m : Str → Option Value} {s : Shared}
    {P C FT fd UX ud ST : Addr} {b : Nat} {k1 k2 k3 k4 k5 k6 k7 j1 j2 u1 u2 td tun tway : Tok} {oP oC o1 o2 o3 : Obj} {c3 : Option Value} {df unit tu pu : Int} {Z : List (Addr × Obj)} {Q : Flow → Shared → Prop} {E : Value → Shared → Prop}
    {NM : Addr} {kw kn : Nat} {ro : Value} {vs us : List Value} {ws : List Int} {xs : List Str}
    (B : Below A₀ base outer h₀) (F : Fr h₀ L s.heap m) (X : (K0 w.params).In h₀)
    (N : News h₀ L s.heap ((P, oP) :: (C, oC) :: (L + 1 + 1 + 1, o3) :: (L + 1 + 1, o2) :: (L + 1, o1) :: Z)) (T : Top q0 loose mean mg mb h₀)
    (po : Pot C b oP oC) (hb : b < 1000) (d1 : o1.data = .cell (some (.ref P))) (d2 : o2.data = .cell (some (.int 1 tway))) (d3 : o3.data = .cell c3)
    (hPC : @Ne Nat P C) (n1 : NeA (L + 1 + 1 + 1) P) (n2 : NeA (L + 1 + 1) P) (n3 : NeA (L + 1) P) (n4 : NeA (L + 1 + 1 + 1) C) (n5 : NeA (L + 1 + 1) C) (n6 : NeA (L + 1) C)
    (z1 : ∀ p ∈ Z, p.1 ≠ P) (z2 : ∀ p ∈ Z, p.1 ≠ C) (z3 : ∀ p ∈ Z, p.1 ≠ L + 1 + 1 + 1)
    (hFT : (FT, instObj 301 fd) ∈ Z) (hfd : (fd, fontDict w k1 k2 k3 k4 k5 k6 k7 (.ref NM) .none ro (.ref ST) df td UX) ∈ Z) (hUX : (UX, instObj 143 ud) ∈ Z) (hud : (ud, decDict w j1 j2 tu u1 pu u2) ∈ Z)
    (hST : (ST, tupObj vs kw) ∈ Z) (hNM : (NM, listOf us.toArray kn) ∈ Z) (hi : IntsAre vs ws) (hl : ws.length = 97) (hbw : ∀ k ∈ ws, 0 ≤ k ∧ k < 1000) (hus : StrsAre us xs) (hxl : xs.length = 256) (hxs : ∀ x ∈ xs, x ∈ keys8)
    (e3 : m (Str.ofString "names") = some (.ref NM)) (e4 : m (Str.ofString "standard") = some (.ref ST)) (hdf : 0 ≤ df ∧ df < 1000)
    (e1 : m (Str.ofString "font") = some (.ref FT)) (e2 : m (Str.ofString "unit") = some (.int unit tun))
    (hun : 1 ≤ unit ∧ unit < 10) (hu : DecRel unit 3 tu pu) (htu : 0 ≤ tu ∧ tu < 10) (hpu : 0 ≤ pu ∧ pu ≤ 3)
    (fin : ∀ oP' oC' o3' c3' m' h' tk', Pot C (b + 2) oP' oC' → o3'.data = .cell c3' → DueKeeps m m' → Fr h₀ L h' m' →
      News h₀ L h' ((P, oP') :: (C, oC') :: (L + 1 + 1 + 1, o3') :: (L + 1 + 1, o2) :: (L + 1, o1) :: Z) → Q .next { s with heap := h', toks := tk' }) :
    wpAny (model prog w) (topT gd (envOfC (Str.ofString "law") lawScope L fa ccd) outer) (execs turnBody (envOfC (Str.ofString "law") lawScope L fa ccd)) Q E s := by
  rw [turn_parts]
  refine pair_walk rfl rfl (by omega) B F X N T po hb d1 d2 d3 hPC n1 n2 n3 n4 n5 n6 z1 z2 z3 ?_
  intro PR np p0 t0 v t oP' oC' o3' h1 tk1 q1 q2 a0 a1 po1 d31 l1 l2 l3 lz F1 N1
  have lift : ∀ D : List (Addr × Obj), (∀ p ∈ D, p ∈ Z) → ∀ p ∈ D, p ∈ (PR, tupObj [.int p0 t0, .int v t] np) :: (P, oP') :: (C, oC') :: (L + 1 + 1 + 1, o3') :: (L + 1 + 1, o2) :: (L + 1, o1) :: Z := fun D h => sub_tail (sub_tail (sub_tail (sub_tail (sub_tail (sub_tail h)))))
  have lift1 : ∀ {p : Addr × Obj}, p ∈ Z → p ∈ (PR, tupObj [.int p0 t0, .int v t] np) :: (P, oP') :: (C, oC') :: (L + 1 + 1 + 1, o3') :: (L + 1 + 1, o2) :: (L + 1, o1) :: Z := fun {p} h => lift Z (fun _ h => h) p h
  have hPR : (PR, tupObj [.int p0 t0, .int v t] np) ∈ (PR, tupObj [.int p0 t0, .int v t] np) :: (P, oP') :: (C, oC') :: (L + 1 + 1 + 1, o3') :: (L + 1 + 1, o2) :: (L + 1, o1) :: Z := .head _
  have hX3 : (L + 1 + 1 + 1, o3') ∈ (PR, tupObj [.int p0 t0, .int v t] np) :: (P, oP') :: (C, oC') :: (L + 1 + 1 + 1, o3') :: (L + 1 + 1, o2) :: (L + 1, o1) :: Z := .tail _ (.tail _ (.tail _ (.head _)))
  have hX2 : (L + 1 + 1, o2) ∈ (PR, tupObj [.int p0 t0, .int v t] np) :: (P, oP') :: (C, oC') :: (L + 1 + 1 + 1, o3') :: (L + 1 + 1, o2) :: (L + 1, o1) :: Z := .tail _ (.tail _ (.tail _ (.tail _ (.head _))))
  generalize hV : (PR, tupObj [.int p0 t0, .int v t] np) :: (P, oP') :: (C, oC') :: (L + 1 + 1 + 1, o3') :: (L + 1 + 1, o2) :: (L + 1, o1) :: Z = V at N1 lift lift1 hPR hX3 hX2
  refine due1_walk rfl rfl B F1 X N1 T hX3 d31 hX2 d2 hPR ⟨a0, a1⟩ (lift1 hST) (lift1 hNM) hi hl hus hxl hxs e3 e4 ?_
  intro m2 h2 tk2 tdue e9 keep F2 N2
  have hW : WidthAt prog w (topT gd (envOfC (Str.ofString "law") lawScope L fa ccd) outer) h₀ L FT PR V (stdVal ws (xs.getD v.toNat PySem.Str.empty)) tu pu := by
    intro s3 m3 Q3 E3 F3 N3 ret3
    refine wpAny_wider (A' := topW gd (envX (Str.ofString "law") lawScope L fa ccd (cellsFrom (L + 1) lawScope.names [])) outer) ?_ rfl (Nat.le_of_ble_eq_true rfl) rfl rfl (Nat.le_of_ble_eq_true rfl)
    exact width1_call B F3 X N3 T lawScope_fn (lift1 hFT) (lift1 hfd) (lift1 hUX) (lift1 hud) hPR (lift1 hST) (lift1 hNM) hi hl hbw hus hxl ⟨a0, a1⟩ hdf htu hpu ret3
  refine test_walk rfl rfl B F2 X N2 T (lift1 hFT) (lift1 hfd) hX3 d31 ((keep _ (by decide) (by decide) (by decide) (by decide)).trans e1) ((keep _ (by decide) (by decide) (by decide) (by decide)).trans e2) e9 (stdVal_bnd hbw) hun hu hpu hW ?_
  intro h3 tk3 F3 N3
  refine fin oP' oC' o3' _ m2 h3 tk3 po1 d31 keep F3 (news_sub N3 ?_)
  rw [← hV]
  exact sub_tail fun p hp => hp
theorem turn2_walk {prog q0 : Program} {w : World} {loose : List Str} {mean : ExcName → Option Value} {mg mb : Str → Option Value} {gd : Option (List Code)}
    {fa : Addr} {ccd : Value} {outer : List Env} {A₀ : Around} {base h₀ : Heap} {L : Addr} {m : Str → Option Value} {s : Shared}
    {P C FT fd UX ud ST : Addr} {b : Nat} {k1 k2 k3 k4 k5 k6 k7 j1 j2 u1 u2 td tun tway : Tok} {oP oC o1 o2 o3 : Obj} {c3 : Option Value} {df unit tu pu : Int} {Z : List (Addr × Obj)} {Q : Flow → Shared → Prop} {E : Value → Shared → Prop}
    {RL CT CL : Addr} {ns nc : Nat} {nm : Value} {D D2 : List (Addr × Obj)} {rs : List Row} {cds : List Cid}
    (B : Below A₀ base outer h₀) (F : Fr h₀ L s.heap m) (X : (K0 w.params).In h₀)
    (N : News h₀ L s.heap ((P, oP) :: (C, oC) :: (L + 1 + 1 + 1, o3) :: (L + 1 + 1, o2) :: (L + 1, o1) :: Z)) (T : Top q0 loose mean mg mb h₀)
    (po : Pot C b oP oC) (hb : b < 1000) (d1 : o1.data = .cell (some (.ref P))) (d2 : o2.data = .cell (some (.int 2 tway))) (d3 : o3.data = .cell c3)
    (hPC : @Ne Nat P C) (n1 : NeA (L + 1 + 1 + 1) P) (n2 : NeA (L + 1 + 1) P) (n3 : NeA (L + 1) P) (n4 : NeA (L + 1 + 1 + 1) C) (n5 : NeA (L + 1 + 1) C) (n6 : NeA (L + 1) C)
    (z1 : ∀ p ∈ Z, p.1 ≠ P) (z2 : ∀ p ∈ Z, p.1 ≠ C) (z3 : ∀ p ∈ Z, p.1 ≠ L + 1 + 1 + 1)
    (hFT : (FT, instObj 301 fd) ∈ Z) (hfd : (fd, fontDict w k1 k2 k3 k4 k5 k6 k7 nm (.ref CT) (.ref RL) (.ref ST) df td UX) ∈ Z) (hUX : (UX, instObj 143 ud) ∈ Z) (hud : (ud, decDict w j1 j2 tu u1 pu u2) ∈ Z)
    (hST : (ST, tupObj [] ns) ∈ Z) (hCT : (CT, tupObj [.none, .ref CL] nc) ∈ Z) (hD : RowsBlk RL D rs) (hDR : ∀ p ∈ D, p ∈ Z) (hD2 : CidsBlk CL D2 cds) (hDR2 : ∀ p ∈ D2, p ∈ Z)
    (e3 : m (Str.ofString "rows") = some (.ref RL)) (e4 : m (Str.ofString "default") = some (.int df td)) (e5 : m (Str.ofString "cids") = some (.ref CL)) (hdf : 0 ≤ df ∧ df < 1000)
    (e1 : m (Str.ofString "font") = some (.ref FT)) (e2 : m (Str.ofString "unit") = some (.int unit tun))
    (hun : 1 ≤ unit ∧ unit < 10) (hu : DecRel unit 3 tu pu) (htu : 0 ≤ tu ∧ tu < 10) (hpu : 0 ≤ pu ∧ pu ≤ 3)
    (fin : ∀ oP' oC' o3' c3' m' h' tk', Pot C (b + 2) oP' oC' → o3'.data = .cell c3' → DueKeeps m m' → Fr h₀ L h' m' →
      News h₀ L h' ((P, oP') :: (C, oC') :: (L + 1 + 1 + 1, o3') :: (L + 1 + 1, o2) :: (L + 1, o1) :: Z) → Q .next { s with heap := h', toks := tk' }) :
    wpAny (model prog w) (topT gd (envOfC (Str.ofString "law") lawScope L fa ccd) outer) (execs turnBody (envOfC (Str.ofString "law") lawScope L fa ccd)) Q E s := by
  rw [turn_parts]
  refine pair_walk rfl rfl (by omega) B F X N T po hb d1 d2 d3 hPC n1 n2 n3 n4 n5 n6 z1 z2 z3 ?_
  intro PR np p0 t0 v t oP' oC' o3' h1 tk1 q1 q2 a0 a1 po1 d31 l1 l2 l3 lz F1 N1
  have lift : ∀ D : List (Addr × Obj), (∀ p ∈ D, p ∈ Z) → ∀ p ∈ D, p ∈ (PR, tupObj [.int p0 t0, .int v t] np) :: (P, oP') :: (C, oC') :: (L + 1 + 1 + 1, o3') :: (L + 1 + 1, o2) :: (L + 1, o1) :: Z := fun D h => sub_tail (sub_tail (sub_tail (sub_tail (sub_tail (sub_tail h)))))
  have lift1 : ∀ {p : Addr × Obj}, p ∈ Z → p ∈ (PR, tupObj [.int p0 t0, .int v t] np) :: (P, oP') :: (C, oC') :: (L + 1 + 1 + 1, o3') :: (L + 1 + 1, o2) :: (L + 1, o1) :: Z := fun {p} h => lift Z (fun _ h => h) p h
  have hPR : (PR, tupObj [.int p0 t0, .int v t] np) ∈ (PR, tupObj [.int p0 t0, .int v t] np) :: (P, oP') :: (C, oC') :: (L + 1 + 1 + 1, o3') :: (L + 1 + 1, o2) :: (L + 1, o1) :: Z := .head _
  have hX3 : (L + 1 + 1 + 1, o3') ∈ (PR, tupObj [.int p0 t0, .int v t] np) :: (P, oP') :: (C, oC') :: (L + 1 + 1 + 1, o3') :: (L + 1 + 1, o2) :: (L + 1, o1) :: Z := .tail _ (.tail _ (.tail _ (.head _)))
  have hX2 : (L + 1 + 1, o2) ∈ (PR, tupObj [.int p0 t0, .int v t] np) :: (P, oP') :: (C, oC') :: (L + 1 + 1 + 1, o3') :: (L + 1 + 1, o2) :: (L + 1, o1) :: Z := .tail _ (.tail _ (.tail _ (.tail _ (.head _))))
  generalize hV : (PR, tupObj [.int p0 t0, .int v t] np) :: (P, oP') :: (C, oC') :: (L + 1 + 1 + 1, o3') :: (L + 1 + 1, o2) :: (L + 1, o1) :: Z = V at N1 lift lift1 hPR hX3 hX2
  refine due2_walk rfl rfl B F1 X N1 T hX3 d31 hX2 d2 hPR ⟨a0, a1⟩ hD (lift _ hDR) hD2 (lift _ hDR2) e3 e4 e5 ?_
  intro m2 h2 tk2 tdue e9 keep F2 N2
  have hW : WidthAt prog w (topT gd (envOfC (Str.ofString "law") lawScope L fa ccd) outer) h₀ L FT PR V (rowVal df (cidFold p0 v 0 cds) rs) tu pu := by
    intro s3 m3 Q3 E3 F3 N3 ret3
    refine wpAny_wider (A' := topW gd (envX (Str.ofString "law") lawScope L fa ccd (cellsFrom (L + 1) lawScope.names [])) outer) ?_ rfl (Nat.le_of_ble_eq_true rfl) rfl rfl (Nat.le_of_ble_eq_true rfl)
    exact width2_call B F3 X N3 T lawScope_fn (lift1 hFT) (lift1 hfd) (lift1 hUX) (lift1 hud) hPR (lift1 hST) (lift1 hCT) hD (lift _ hDR) hD2 (lift _ hDR2) ⟨a0, a1⟩ hdf htu hpu ret3
  refine test_walk rfl rfl B F2 X N2 T (lift1 hFT) (lift1 hfd) hX3 d31 ((keep _ (by decide) (by decide) (by decide) (by decide)).trans e1) ((keep _ (by decide) (by decide) (by decide) (by decide)).trans e2) e9 (rowVal_bnd hdf (by obtain ⟨_, _, _, _, _, hok⟩ := hD; exact hok)) hun hu hpu hW ?_
  intro h3 tk3 F3 N3
  refine fin oP' oC' o3' _ m2 h3 tk3 po1 d31 keep F3 (news_sub N3 ?_)
  rw [← hV]
  exact sub_tail fun p hp => hp
section
local macro_rules | `(tactic| walk_at "call ref") => `(tactic| (k_here; (with_reducible show wpAny _ _ (PySem.call (Value.ref _) [Value.ref _] _) _ _ _); k_dflt (refine' pot_use ?B ?F ?X ?N ?T ?hk ?hS ?hi ?hl ?hh ?hf ?hd ?hu ?hg ?_; (case hf => rfl); (case B => k_asm); (case F => k_asm); (case X => k_asm); (case N => k_asm); (case T => k_asm); (case hS => assumption); (case hi => assumption); (case hk => rfl); (case hl => omega); (case hh => rfl); (case hd => exact Nat.le_of_ble_eq_true rfl); (case hu => exact Nat.le_of_ble_eq_true rfl); (case hg => rfl)); intro P' C' oP' oC' h' tk' po' hPC' hPR' hCR' F' N'; (simp only [LCg.Off1, and_true] at hPR' hCR'); (try k_fold)))
local macro_rules | `(tactic| walk_at "call ref") => `(tactic| (k_here; (with_reducible show wpAny _ _ (PySem.call (Value.ref _) [Value.ref _] _) _ _ _); k_dflt (refine' rows_use ?B ?F ?X ?N ?T ?hk ?po ?hb ?hPC ?hPR ?hCR ?hh ?hf ?hd ?hu ?hg ?_; (case hf => rfl); (case B => k_asm); (case F => k_asm); (case X => k_asm); (case N => k_asm); (case T => k_asm); (case po => assumption); (case hb => omega); (case hk => rfl); (case hPC => assumption); (case hPR => (simp only [LCg.Off1, and_true]; omega)); (case hCR => (simp only [LCg.Off1, and_true]; omega)); (case hh => rfl); (case hd => exact Nat.le_of_ble_eq_true rfl); (case hu => exact Nat.le_of_ble_eq_true rfl); (case hg => rfl)); intro RL' oP' oC' D' rs' h' tk' po' blk' dP' dC' ap' F' N'; (simp only [OffAll, and_true] at ap'); (try simp only [List.cons_append, List.nil_append] at N'); (try k_fold)))
local macro_rules | `(tactic| walk_at "pyIter ref") => `(tactic| (k_here; refine halt ?_))
local macro_rules | `(tactic| walk_at "call type:range") => `(tactic| ((with_reducible show wpAny _ _ (PySem.call _ [_]) _ _ _); k_dflt (refine' range1_rows ?F ?N ?h; (case F => k_asm); (case N => k_asm)); intro _ _ _ _ _ _ _ _ _))
local macro_rules | `(tactic| walk_at "call builtin:list.append") => `(tactic| (k_here; (with_reducible show wpAny _ _ (call (Value.builtin _) [Value.ref _, _]) _ _ _); k_dflt (refine' append_K ?k1 ?k2 ?k3 ?_ ?z; (case k1 => k_asm); (case k2 => k_asm); (case k3 => k_upd); (case z => (rw [PySem.sizeLine_eq]; simp only [List.size_toArray]; omega)); k_whole); intro h' F' N'; (try k_sweep)))
local macro_rules | `(tactic| walk_at "InvEndG") => `(tactic| k_dflt (refine' cids_end ?hoff ?hD ?hcs ?hlen ?hok ?hap ?F ?N ?m ?m2 ?po ?hb ?h5 ?hr ?hT ?hTne ?h1 ?h2 ?h3 ?h4 ?h41 ?h42 ?h7; (case hoff => assumption); (case hD => assumption); (case hcs => assumption); (case hlen => assumption); (case hok => assumption); (case hap => assumption); (case F => k_asm); (case N => k_asm); (case m => exact rfl); (case m2 => exact rfl); (case h1 => k_mem); (case h2 => k_mem); (case h3 => k_mem); (case h4 => k_mem); (case h41 => k_mem); (case h42 => k_mem); (case h5 => k_mem); (case po => assumption); (case hb => omega); (case hr => (constructor <;> dsimp only <;> first | omega | (constructor <;> omega))); (case hT => first | exact tl4 (by assumption) | exact tl5 (by assumption) | exact tl6 (by assumption) | exact lt_off (allLt_mem (by assumption))); (case hTne => omega); (case h7 => kcf_all)))
local macro_rules | `(tactic| walk_at "call ref") => `(tactic| (k_here; (with_reducible show wpAny _ _ (PySem.call (Value.ref _) [Value.int _ _, Value.int _ _] _) _ _ _); k_dflt (refine' dec_use ?B ?F ?X ?N ?T ?hk ?ht ?hp ?hh ?hf ?hd ?hu ?hg ?_; (case hf => rfl); (case B => k_asm); (case F => k_asm); (case X => k_asm); (case N => k_asm); (case T => k_asm); (case ht => omega); (case hp => omega); (case hh => rfl); (case hk => rfl); (case hd => exact Nat.le_of_ble_eq_true rfl); (case hu => exact Nat.le_of_ble_eq_true rfl); (case hg => rfl)); intro x' d' k1' k2' t' u1' p' u2' h' tk' l2 l1 dt0' dt1' dp0' dp1' dr' dn' F' N'; (clear dn'); (try k_lt2 l2); (try k_lt l1); (try k_fold)))
local macro_rules | `(tactic| walk_at "eval ListComp") => `(tactic| (k_here; k_dflt (refine LCg.ListComp_U (F₀ := by k_asm) (by with_unfolding_all rfl) (by decide) (by rfl) (by decide) (by rfl) ?_)))
local macro_rules | `(tactic| walk_at "CompSrc") => `(tactic| (k_here; k_dflt (refine' LCg.CompSrc.range ?hh ?F ?N ?hr ?hs ?hz ?hl ?_; (case hh => rfl); (case F => k_asm); (case N => k_asm); (case hr => assumption); (case hs => decide); (case hz => exact rangeSize_nat _ _); (case hl => exact Nat.le_of_ble_eq_true rfl)); intro g'; (refine comp_pure Small (fun i' t' I' oI' C' oC' D' m' ys' h' tk' E' hi' hC' hx' F' N' off' ne' => ?_) (fun ys' hy1' hy2' => ?_)); kcf_last))
local macro_rules | `(tactic| walk_at "CompSrc") => `(tactic| (k_here; (with_reducible show LCg.CompSrc _ _ _ _ _ _ _ (.IfExp ..) _ _ _ _ _ _); k_dflt (refine' LCg.CompSrc.range ?hh ?F ?N ?hr ?hs ?hz ?hl ?_; (case hh => rfl); (case F => k_asm); (case N => k_asm); (case hr => assumption); (case hs => decide); (case hz => exact rangeSize_nat _ _); (case hl => exact Nat.le_of_ble_eq_true rfl)); intro g'; (refine' comp_keys ?po (fun i' t' I' oI' C' oC' D' m' ys' oP' oK' h' tk' E' hi' hC' hx' po' F' N' off' ne' => ?_) (fun ys' xs' oP' oK' hk' hl' hb' po' => ?_)); (case po => assumption); (all_goals (try ((have off2' := off'); (simp only [LCg.Off3, and_true] at off2')))); kcf_last))
local macro_rules | `(tactic| walk_at "CompEnd") => `(tactic| (refine LCg.CompEnd.intro (by assumption) (by assumption) _ (by kcf_all) (by assumption) (by trivial) (ElIs.mk ⟨_, _, rfl, small_mod _⟩)))
local macro_rules | `(tactic| walk_at "CompEnd") => `(tactic| (refine' LCg.CompEnd.intro ?F ?N _ ?sub ?off ?S ⟨_, _, _, _, rfl, ?po, rfl, ?mem⟩; (case po => first | assumption | exact Pot.mono (by assumption) (by omega)); (case F => assumption); (case N => assumption); (case sub => kcf_all); (case off => assumption); (case S => trivial); (case mem => first | decide | exact key_at (by assumption) (by assumption) (by assumption))))
local macro_rules | `(tactic| walk_at "binaryOp Mult ref int") => `(tactic| (k_here; (with_reducible show wpAny _ _ (binaryOp _ (Value.ref _) (Value.int _ _)) _ _ _); k_dflt (refine' mul_blank ?F ?N ?a ?_; (case F => k_asm); (case N => k_asm); (case a => kmk_list)); intro D' us' h' F' N' l1 hs'; (try k_lt l1); (try k_sweep)))
local macro_rules | `(tactic| walk_at "binaryOp Add ref ref") => `(tactic| (k_here; (with_reducible show wpAny _ _ (binaryOp _ (Value.ref _) (Value.ref _)) _ _ _); k_dflt (refine' add_strs ?F ?N ?a ?b ?i ?j ?_ ?z; (case F => k_asm); (case N => k_asm); (case a => kmk_list); (case b => kmk_list); (case i => assumption); (case j => assumption); (case z => (rw [List.length_replicate, PySem.sizeLine_eq]; omega))); intro D' us' h' F' N' l1 hs'; (try k_lt l1); (try k_sweep)))
local macro_rules | `(tactic| walk_at "call builtin:sorted") => `(tactic| (k_here; (with_reducible show wpAny _ _ (call (Value.builtin _) [Value.ref _]) _ _ _); k_dflt (refine' sorted_names ?hh ?F ?N ?hm ?sm ?hd ?hf ?_; (case hh => rfl); (case F => k_asm); (case N => k_asm); (case hm => k_mem); (case sm => assumption); (case hd => assumption); (case hf => assumption)); intro B' us' xs' c' h' tk' F' N' l1 hs' hl' hm'; (try k_lt l1); (try k_fold)))
set_option Elab.async true
theorem law_all.tw3416886346130291467 : True := trivial
theorem law_all.tw2225694422541459837 : True := trivial
theorem law_all.tw15640896081885072018 : True := trivial
theorem law_all.tw10145363553656391591 : True := trivial
theorem law_all.tw2872085493576920064 : True := trivial
theorem law_all.tw7424173207631694637 : True := trivial
theorem law_all.tw1068153473233568800 : True := trivial
theorem law_all.tw11683562433995433641 : True := trivial
theorem law_all.tw13274840464982359763 : True := trivial
theorem law_all.tw12729013581757030507 : True := trivial
theorem law_all.tw2534205154373081525 : True := trivial
theorem law_all.tw17240311926567722313 : True := trivial
theorem law_all.tw16577843217576899742 : True := trivial
theorem law_all.tw17610193108198147946 : True := trivial
theorem law_all.tw9847930118418132646 : True := trivial
theorem law_all.tw9496831969247301946 : True := trivial
theorem law_all.tw12703074045546933829 : True := trivial
theorem law_all.tw11195006048519719982 : True := trivial
theorem law_all.tw2406078263742745528 : True := trivial
theorem law_all.tw6355135678535457092 : True := trivial
theorem law_all.tw10808177503072308079 : True := trivial
theorem law_all.tw15881968454215721113 : True := trivial
theorem law_all.tw15817853144674484978 : True := trivial
theorem law_all.tw185478952616494882 : True := trivial
theorem law_all.tw9930186087560989292 : True := trivial
theorem law_all.tw11283148420750326516 : True := trivial
theorem law_all.tw1908834790331025158 : True := trivial
theorem law_all.tw14483480384061991028 : True := trivial
theorem law_all.tw2355731226331693373 : True := trivial
theorem law_all.tw16436836394604217106 : True := trivial
theorem law_all.tw3325111520719290175 : True := trivial
theorem law_all.tw5467091673537627360 : True := trivial
theorem law_all.tw6513319782983348548 : True := trivial
theorem law_all.tw13061075394575644761 : True := trivial
theorem law_all.tw1317780672425346132 : True := trivial
theorem law_all.tw16610364562264112213 : True := trivial
theorem law_all.tw10780945830723714241 : True := trivial
theorem law_all.tw4408054295985219607 : True := trivial
theorem law_all.tw7049779834799297369 : True := trivial
theorem law_all.tw3647167244474244301 : True := trivial
theorem law_all.tw801417409540640141 : True := trivial
theorem law_all.tw17311543511305506410 : True := trivial
theorem law_all.tw9144500139776326259 : True := trivial
theorem law_all.tw12733668576097638289 : True := trivial
theorem law_all.tw13833317127055801060 : True := trivial
theorem law_all.tw11239549508614699967 : True := trivial
theorem law_all.tw1115311737908471259 : True := trivial
theorem law_all.tw13242965595582236870 : True := trivial
theorem law_all.tw3560663033078476128 : True := trivial
theorem law_all.tw7271498159299846290 : True := trivial
theorem law_all.tw6352045179492744985 : True := trivial
theorem law_all.tw16074868582555063224 : True := trivial
theorem law_all.tw12719020962863150717 : True := trivial
theorem law_all.tw11575233253633470811 : True := trivial
theorem law_all.tw14058198244844264512 : True := trivial
theorem law_all.tw5332743953270975010 : True := trivial
theorem law_all.tw1006284481315042348 : True := trivial
theorem law_all.tw16741880675132489432 : True := trivial
theorem law_all.tw11977895914950762854 : True := trivial
theorem law_all.tw7292434958787203408 : True := trivial
theorem law_all.tw9036414278844654636 : True := trivial
theorem law_all.tw16745809935298821572 : True := trivial
theorem law_all.tw7497220510776412333 : True := trivial
theorem law_all.tw11953936395949465439 : True := trivial
theorem law_all.tw15102585243479572927 : True := trivial
theorem law_all.tw8937883705780218553 : True := trivial
theorem law_all.tw1216541509919387563 : True := trivial
theorem law_all.tw13777954402992151954 : True := trivial
theorem law_all.tw14590151118176713116 : True := trivial
theorem law_all.tw15327138436386969399 : True := trivial
theorem law_all.tw8559622642134532576 : True := trivial
theorem law_all.tw857312800663944748 : True := trivial
theorem law_all.tw3296963836593520940 : True := trivial
theorem law_all.tw13367176642022358155 : True := trivial
theorem law_all.tw14115007137499183204 : True := trivial
theorem law_all.tw12491990524712166927 : True := trivial
theorem law_all.tw18313445508184284481 : True := trivial
theorem law_all.tw11407212017213923087 : True := trivial
theorem law_all.tw8732206733074496467 : True := trivial
theorem law_all.tw11185291794543270386 : True := trivial
theorem law_all.tw14007897523862953668 : True := trivial
theorem law_all.tw12051850038722144316 : True := trivial
theorem law_all.tw10294897870698960256 : True := trivial
theorem law_all.tw5285307726481897559 : True := trivial
theorem law_all.tw12338384112835736923 : True := trivial
theorem law_all.tw1487786111206980130 : True := trivial
theorem law_all.tw13794602993731048600 : True := trivial
theorem law_all.tw1240527894709903851 : True := trivial
theorem law_all.tw16317050728709778059 : True := trivial
theorem law_all.tw9168384875350026409 : True := trivial
theorem law_all.tw11064476311533581427 : True := trivial
theorem law_all.tw5716606068430416637 : True := trivial
theorem law_all.tw11085147635474315433 : True := trivial
theorem law_all.tw11655911931479345256 : True := trivial
theorem law_all.tw3053660256275331401 : True := trivial
theorem law_all.tw11660793784710997211 : True := trivial
theorem law_all.tw196974008228917347 : True := trivial
theorem law_all.tw7244142420057014546 : True := trivial
theorem law_all.tw11819635365892184359 : True := trivial
theorem law_all.tw289511000256421866 : True := trivial
theorem law_all.tw6818535541638068524 : True := trivial
theorem law_all.tw937055499877386264 : True := trivial
theorem law_all.tw782427809645370415 : True := trivial
theorem law_all.tw16371026202757247076 : True := trivial
theorem law_all.tw15111771918000721386 : True := trivial
theorem law_all.tw5923626274025043023 : True := trivial
theorem law_all.tw15982079766070313398 : True := trivial
theorem law_all.tw13323004776771469176 : True := trivial
theorem law_all.tw4261436866732715612 : True := trivial
theorem law_all.tw5099097261256123588 : True := trivial
theorem law_all.tw9758465039191818689 : True := trivial
theorem law_all.tw7564772252293548769 : True := trivial
theorem law_all.tw12836747770095448064 : True := trivial
theorem law_all.tw4771868648470891126 : True := trivial
theorem law_all.tw7297819598837024618 : True := trivial
theorem law_all.tw8295653638501232855 : True := trivial
theorem law_all.tw404534946110283943 : True := trivial
theorem law_all.tw14384918623772240547 : True := trivial
theorem law_all.tw11968179528029030403 : True := trivial
theorem law_all.tw8192627400900402444 : True := trivial
theorem law_all.tw13846950719819077829 : True := trivial
theorem law_all.tw6281336798887741830 : True := trivial
theorem law_all.tw505472199257750392 : True := trivial
theorem law_all.tw1756717570143565084 : True := trivial
theorem law_all.tw9015332790510971594 : True := trivial
theorem law_all.tw15696156366995490489 : True := trivial
theorem law_all.tw18180275025638004960 : True := trivial
theorem law_all.tw5483578599265696199 : True := trivial
theorem law_all.tw11266150474529332087 : True := trivial
theorem law_all.tw7570389025846386837 : True := trivial
theorem law_all.tw13048455256248648906 : True := trivial
theorem law_all.tw17227298659443432083 : True := trivial
theorem law_all.tw6064550380648306667 : True := trivial
theorem law_all.tw10470740866990187283 : True := trivial
theorem law_all.tw2425498562415444253 : True := trivial
theorem law_all.tw10382579582808609351 : True := trivial
theorem law_all.tw16831322107450627596 : True := trivial
theorem law_all.tw2466386354987971064 : True := trivial
theorem law_all.tw6723525195617269812 : True := trivial
theorem law_all.tw6550320685308687620 : True := trivial
theorem law_all.tw18383949787495555429 : True := trivial
theorem law_all.tw16802804513485658213 : True := trivial
theorem law_all.tw9621619661464635597 : True := trivial
theorem law_all.tw10762840037948107096 : True := trivial
theorem law_all.tw7382394883274062982 : True := trivial
theorem law_all.tw9429942708143374130 : True := trivial
theorem law_all.tw4179209112946984403 : True := trivial
theorem law_all.tw3226911033302893226 : True := trivial
theorem law_all.tw11986533732874898875 : True := trivial
theorem law_all.tw12507762813244862470 : True := trivial
theorem law_all.tw6137565119714909412 : True := trivial
theorem law_all.tw11587524997120335971 : True := trivial
theorem law_all.tw498969334165971575 : True := trivial
theorem law_all.tw15693939393655280204 : True := trivial
theorem law_all.tw8218769490964061657 : True := trivial
theorem law_all.tw17923636723392841309 : True := trivial
theorem law_all.tw8585119295471724657 : True := trivial
theorem law_all.tw15988576510117618290 : True := trivial
theorem law_all.tw10834972849280226571 : True := trivial
theorem law_all.tw12961678295145188246 : True := trivial
theorem law_all.tw18223944042725728250 : True := trivial
theorem law_all.tw17215917983952657280 : True := trivial
theorem law_all.tw2127671843654578818 : True := trivial
theorem law_all.tw7093450904264552785 : True := trivial
theorem law_all.tw2721814648045382242 : True := trivial
theorem law_all.tw15189314362614519228 : True := trivial
theorem law_all.tw9400421687833027045 : True := trivial
theorem law_all.tw15877617104253876215 : True := trivial
theorem law_all.tw8305597428437692698 : True := trivial
theorem law_all.tw14966067393961270158 : True := trivial
theorem law_all.tw3907663706730131783 : True := trivial
theorem law_all.tw1115970785884932992 : True := trivial
theorem law_all.tw740504054621376137 : True := trivial
theorem law_all.tw4607750278909125284 : True := trivial
theorem law_all.tw18437768301239656569 : True := trivial
theorem law_all.tw1819660966834464121 : True := trivial
theorem law_all.tw4449761216389261190 : True := trivial
theorem law_all.tw9389932311233280350 : True := trivial
theorem law_all.tw10517906790627618544 : True := trivial
theorem law_all.tw2238069962009214901 : True := trivial
theorem law_all.tw2942426997265644656 : True := trivial
theorem law_all.tw1702886262042523489 : True := trivial
theorem law_all.tw3658401073832251761 : True := trivial
theorem law_all.tw17198419215744740974 : True := trivial
theorem law_all.tw6775264209203825292 : True := trivial
theorem law_all.tw17073913150402608559 : True := trivial
theorem law_all.tw11509529326707108785 : True := trivial
theorem law_all.tw1408806660432250928 : True := trivial
theorem law_all.tw2818472761355251851 : True := trivial
set_option maxHeartbeats 8000000 in
theorem law_all : PySem.Challenge.rw_og0167_01.Holds := by
  have hfill : PySem.Challenge.rw_og0167_01 = PySem.Challenge.rw_og0167_01 → Mine.K0 = Mine.K0 → True := by k_fill; intros; trivial
  clear hfill
  w_on; o_law; k_head; (case hw => w_witness2)
  k_with_none
  w_strict (k_go0; (all_goals try k_fold); (rename Frag.In _ _ => kx8; rename World => w8; have X28 : (Mine.K0 w8.params).In _ := frag_sub (by kernel_rfl) kx8); k_steps)
  rename_i P C _ _ _ _ _ hPC hPR hCR _ _ _ o1 d1 way tway _ _ _ _ hw0 hw1 _ _ _ _ o2 d2 RL _ _ D' rs _ _ _ blk dP dC ap _ _ _ _ CL _ l1 _ _ _ v t oP oC _ _ hv0 hv1 po F1 N1 _ _ _ _ _ _ _ _ _
  unfold Halt
  refine' iter_rangeJ (CidsJ P C CL _ _ _ RL _ _ _ _ _) ?hh8 ?hr8 ?hs8 ?hz8 ?F8 ?N8 ?hj8 ?turn8 ?done8
  case hh8 => rfl
  case hr8 => assumption
  case hs8 => exact small_one (by kcf_bnd) (by kcf_bnd) (by kcf_bnd) (by kcf_bnd)
  case hz8 => exact rangeSize_nat _ _
  case F8 => k_asm
  case N8 => k_asm
  case hj8 =>
    refine cidsJ_start ?_ ?_ ?_
    · assumption
    · exact rfl
    · exact rfl
  case turn8 =>
    intro i t m₁ nx h tk own hin hoff hJ F₁ N₁
    obtain ⟨oP1, oC1, D, vs, k, cs, rfl, po1, hcs, hlen, hok, hm, hm2, hap⟩ := hJ
    have hin' : i < 3 := by omega
    have F₂ := fr_see (fr_see F₁ (Str.ofString "cids") ((if_neg (by decide)).trans hm)) (Str.ofString "rows") ((if_neg (by decide)).trans ((if_neg (by decide)).trans hm2))
    simp only [List.cons_append, List.append_assoc] at N₁
    have hT1 : ∀ p ∈ D ++ (D' ++ own), p.1 ≠ P := tail_off hap.1 dP (fun p hp => hoff p hp _ (.head _))
    have hT2 : ∀ p ∈ D ++ (D' ++ own), p.1 ≠ C := tail_off hap.2.1 dC (fun p hp => hoff p hp _ (.tail _ (.head _)))
    have hT3 : ∀ p ∈ D ++ (D' ++ own), p.1 ≠ CL := tail_off hap.2.2.1 (lt_off (allLt_mem l1.2.2.2.2.2)) (fun p hp => hoff p hp _ (.tail _ (.tail _ (.head _))))
    have hvl : vs.length = i := hcs.1.trans hlen
    clear F₁
    generalize hT : D ++ (D' ++ own) = T1 at N₁ hT1 hT2 hT3
    k_steps
  case done8 =>
    intro m₁ nx h tk hJ F₁ N₁
    obtain ⟨oP1, oC1, D, vs, k, cs, rfl, po1, hcs, hlen, hok, hm, hm2, hap⟩ := hJ
    have F₂ := fr_see (fr_see F₁ (Str.ofString "cids") hm) (Str.ofString "rows") ((if_neg (by decide)).trans hm2)
    clear F₁
    have dT1 : ∀ p ∈ (CL, listOf vs.toArray k) :: (D ++ D'), p.1 ≠ P := off_cons (Ne.symm (Nat.ne_of_lt l1.1)) fun p hp => (List.mem_append.mp hp).elim (hap.1 p) (dP p)
    have dT2 : ∀ p ∈ (CL, listOf vs.toArray k) :: (D ++ D'), p.1 ≠ C := off_cons (Ne.symm (Nat.ne_of_lt l1.2.1)) fun p hp => (List.mem_append.mp hp).elim (hap.2.1 p) (dC p)
    have dT3 : ∀ p ∈ (CL, listOf vs.toArray k) :: (D ++ D'), p.1 ≠ _ := off_cons (Ne.symm (Nat.ne_of_lt l1.2.2.1)) fun p hp => (List.mem_append.mp hp).elim (hap.2.2.2.1 p) (ap.1 p)
    have cblk : CidsBlk CL ((CL, listOf vs.toArray k) :: D) cs := ⟨vs, k, .head _, hcs.mono fun p hp => .tail _ hp, by omega, hok⟩
    have s1 : ∀ p ∈ (CL, listOf vs.toArray k) :: D, p ∈ (CL, listOf vs.toArray k) :: (D ++ D') := fun p hp => (List.mem_cons.mp hp).elim (fun e => e ▸ .head _) fun hp => .tail _ (List.mem_append.mpr (.inl hp))
    have s2 : ∀ p ∈ D', p ∈ (CL, listOf vs.toArray k) :: (D ++ D') := fun p hp => .tail _ (List.mem_append.mpr (.inr hp))
    generalize hT : (CL, listOf vs.toArray k) :: (D ++ D') = T1 at dT1 dT2 dT3 s1 s2
    have N₂ : News _ _ h ((P, oP1) :: (C, oC1) :: (_, _) :: (_, o2) :: (_, o1) :: T1) := fun p hp => N₁ p (by
      rcases List.mem_cons.mp hp with rfl | hp
      · exact .head _
      · rcases List.mem_cons.mp hp with rfl | hp
        · exact .tail _ (.head _)
        · rcases List.mem_cons.mp hp with rfl | hp
          · exact .tail _ (.tail _ (.tail _ (.head _)))
          · rcases List.mem_cons.mp hp with rfl | hp
            · exact .tail _ (.tail _ (.tail _ (.tail _ (.head _))))
            · rcases List.mem_cons.mp hp with rfl | hp
              · exact .tail _ (.tail _ (.tail _ (.tail _ (.tail _ (.head _)))))
              · rw [← hT] at hp
                rcases List.mem_cons.mp hp with rfl | hp
                · exact .tail _ (.tail _ (.head _))
                · exact .tail _ (.tail _ (.tail _ (.tail _ (.tail _ (.tail _ hp))))))
    have po2 : Pot C 60 oP1 oC1 := po1.mono (by omega)
    clear N₁ N1 hT po1 po hap dP dC ap hcs hok hm hm2
    have hw : way = 0 ∨ way = 1 ∨ way = 2 := by omega
    clear hw0 hw1
    rcases hw with rfl | rfl | rfl
    · k_steps
      unfold Halt
      rename Fr _ _ _ _ => F9
      rename News _ _ _ _ => N9
      rename Pot _ _ _ _ => po9
      have N8 := news_fin0 N9
      clear N9
      (repeat (rename LCg.Off1 _ _ => zo; clear zo))
      refine' iter_rangeJ (FinJ P C _ _ T1 _ _ _ _ _ _ _ 90) ?hh9_0 ?hr9_0 ?hs9_0 ?hz9_0 ?F9_0 ?N9_0 ?hj9_0 ?turn9_0 ?done9_0
      case hh9_0 => rfl
      case hr9_0 => assumption
      case hs9_0 => decide
      case hz9_0 => exact rangeSize_nat _ _
      case F9_0 => exact F9
      case N9_0 => exact N8
      case hj9_0 =>
        refine' finJ_start ?zp_0 ?zd_0 ?z1_0 ?z2_0 ?z3_0 ?z4_0 ?z5_0 ?z6_0 ?z7_0
        case zp_0 => exact po9.mono (by decide)
        case zd_0 => assumption
        case z1_0 => exact rfl
        case z2_0 => exact rfl
        case z3_0 => exact rfl
        case z4_0 => exact rfl
        case z5_0 => exact rfl
        case z6_0 => exact rfl
        case z7_0 => exact rfl
      case turn9_0 =>
        clear F9 N8
        have n0 : NeA P C := hPC
        have n1 : NeA _ P := hPR.1
        have n2 : NeA _ P := hPR.2.1
        have n3 : NeA _ P := hPR.2.2
        have n4 : NeA _ C := hCR.1
        have n5 : NeA _ C := hCR.2.1
        have n6 : NeA _ C := hCR.2.2
        clear hPC hPR hCR
        (repeat (rename Fr _ _ _ _ => zo; clear zo))
        (repeat (rename News _ _ _ _ => zo; clear zo))
        (repeat (rename _ ≠ _ ∧ _ ≠ _ ∧ _ ≠ _ ∧ _ ≠ _ ∧ _ => zo; clear zo))
        intro i t m₂ nx h tk own hin hoff hJ F₁ N₁
        obtain ⟨oP2, oC2, o32, rfl, po3, ⟨c3, d3⟩, e1, e2, e3, e4, e5, e6, e7⟩ := hJ
        simp only [List.cons_append, List.nil_append, List.append_assoc] at N₁
        refine' wpAny_wider (A' := topT _ (envOfC (Str.ofString "law") lawScope _ _ _) _) (turn0_walk ?B_0 ?F_0 ?X_0 ?N_0 ?T_0 ?po_0 ?hb_0 ?d1_0 ?d2_0 ?d3_0 n0.l n1 n2 n3 n4 n5 n6 ?z1_0 ?z2_0 ?z3_0 ?hFT_0 ?hfd_0 ?hUX_0 ?hud_0 ?hST_0 ?hD_0 ?hDR_0 ?ge6_0 ?ge3_0 ?hdf_0 ?ge1_0 ?ge2_0 ?hun_0 ?hu_0 ?htu_0 ?hpu_0 ?fin_0) rfl (Nat.le_of_ble_eq_true rfl) rfl rfl (Nat.le_of_ble_eq_true rfl)
        case F_0 => exact F₁
        case N_0 => exact N₁
        case B_0 => k_asm
        case X_0 => k_asm
        case T_0 => k_asm
        case po_0 => exact po3
        case hb_0 => (have : i < 6 := hin); omega
        case d1_0 => exact d1
        case d2_0 => exact d2
        case d3_0 => exact d3
        case z1_0 => (repeat' (first | exact off_app dT1 (fun p hp => hoff p hp _ (.head _)) | refine off_cons ?_ ?_)); all_goals omega
        case z2_0 => (repeat' (first | exact off_app dT2 (fun p hp => hoff p hp _ (.tail _ (.head _))) | refine off_cons ?_ ?_)); all_goals omega
        case z3_0 => (repeat' (first | exact off_app dT3 (fun p hp => hoff p hp _ (.tail _ (.tail _ (.head _)))) | refine off_cons ?_ ?_)); all_goals omega
        case hFT_0 => exact .head _
        case hfd_0 => exact .tail _ (.head _)
        case hUX_0 => exact .tail _ (.tail _ (.head _))
        case hud_0 => exact .tail _ (.tail _ (.tail _ (.head _)))
        case hST_0 => exact .tail _ (.tail _ (.tail _ (.tail _ (.head _))))
        case hD_0 => assumption
        case hDR_0 => (repeat (first | exact fun p hp => List.mem_append.mpr (.inl (s2 p hp)) | refine sub_tail ?_))
        case ge1_0 => exact (if_neg (by decide)).trans e1
        case ge2_0 => exact (if_neg (by decide)).trans e2
        case ge6_0 => exact (if_neg (by decide)).trans e6
        case ge3_0 => exact (if_neg (by decide)).trans e3
        case hdf_0 => exact ⟨by omega, by omega⟩
        case hun_0 => exact ⟨by omega, by omega⟩
        case hu_0 => assumption
        case htu_0 => exact ⟨by omega, by omega⟩
        case hpu_0 => exact ⟨by omega, by omega⟩
        case fin_0 =>
          intro oP' oC' o3' c3' m' h' tk' po' d3' keep F' N'
          refine' fin_end hoff rfl F' N' po' ?gb_0 d3' ((keep _ (by decide) (by decide) (by decide) (by decide)).trans ((if_neg (by decide)).trans e1)) ((keep _ (by decide) (by decide) (by decide) (by decide)).trans ((if_neg (by decide)).trans e2)) ((keep _ (by decide) (by decide) (by decide) (by decide)).trans ((if_neg (by decide)).trans e3)) ((keep _ (by decide) (by decide) (by decide) (by decide)).trans ((if_neg (by decide)).trans e4)) ((keep _ (by decide) (by decide) (by decide) (by decide)).trans ((if_neg (by decide)).trans e5)) ((keep _ (by decide) (by decide) (by decide) (by decide)).trans ((if_neg (by decide)).trans e6)) ((keep _ (by decide) (by decide) (by decide) (by decide)).trans ((if_neg (by decide)).trans e7)) (.head _) (.tail _ (.head _)) (.tail _ (.tail _ (.head _))) ?g4_0 ?g5_0
          case gb_0 => omega
          case g4_0 => kcf_all
          case g5_0 => (repeat (first | exact fun p hp => hp | refine sub_tail ?_))
      case done9_0 =>
        intro m₂ nx h tk hJ F₁ N₁
        obtain ⟨oP2, oC2, o32, rfl, po3, ⟨c3, d3⟩, e1, e2, e3, e4, e5, e6, e7⟩ := hJ
        k_steps
    · k_steps
      unfold Halt
      rename Fr _ _ _ _ => F9
      rename News _ _ _ _ => N9
      rename Pot _ _ _ _ => po9
      have N8 := news_fin1 N9
      clear N9
      (repeat (rename LCg.Off1 _ _ => zo; clear zo))
      rename ∀ y ∈ _, Small y => hsm
      rename StrsAre _ (_ ++ _) => hnm
      rename ∀ x ∈ _, x ∈ keys8 => hk8
      obtain ⟨ks9, hks, hkl, hkb⟩ := smalls _ hsm
      have hkl97 : ks9.length = 97 := hkl.trans (by assumption)
      have hnl := names256 (by assumption) hk8
      have w1 : NeA _ P := news_ne N8 (p := (_, tupObj _ _)) (.tail _ (.tail _ (.tail _ (.tail _ (.tail _ (.tail _ (.tail _ (.tail _ (.tail _ (.head _)))))))))) (.head _) (pot_ne_tup po9).1
      have w2 : NeA _ C := news_ne N8 (p := (_, tupObj _ _)) (.tail _ (.tail _ (.tail _ (.tail _ (.tail _ (.tail _ (.tail _ (.tail _ (.tail _ (.head _)))))))))) (.tail _ (.head _)) (pot_ne_tup po9).2
      have w3 : NeA _ _ := news_ne N8 (p := (_, tupObj _ _)) (.tail _ (.tail _ (.tail _ (.tail _ (.tail _ (.tail _ (.tail _ (.tail _ (.tail _ (.head _)))))))))) (.tail _ (.tail _ (.head _))) (cell_ne_tup (by assumption))
      refine' iter_rangeJ (FinJ P C _ _ T1 _ _ _ _ _ _ _ 90) ?hh9_1 ?hr9_1 ?hs9_1 ?hz9_1 ?F9_1 ?N9_1 ?hj9_1 ?turn9_1 ?done9_1
      case hh9_1 => rfl
      case hr9_1 => assumption
      case hs9_1 => decide
      case hz9_1 => exact rangeSize_nat _ _
      case F9_1 => exact F9
      case N9_1 => exact N8
      case hj9_1 =>
        refine' finJ_start ?zp_1 ?zd_1 ?z1_1 ?z2_1 ?z3_1 ?z4_1 ?z5_1 ?z6_1 ?z7_1
        case zp_1 => exact po9.mono (by decide)
        case zd_1 => assumption
        case z1_1 => exact rfl
        case z2_1 => exact rfl
        case z3_1 => exact rfl
        case z4_1 => exact rfl
        case z5_1 => exact rfl
        case z6_1 => exact rfl
        case z7_1 => exact rfl
      case turn9_1 =>
        clear F9 N8
        have n0 : NeA P C := hPC
        have n1 : NeA _ P := hPR.1
        have n2 : NeA _ P := hPR.2.1
        have n3 : NeA _ P := hPR.2.2
        have n4 : NeA _ C := hCR.1
        have n5 : NeA _ C := hCR.2.1
        have n6 : NeA _ C := hCR.2.2
        clear hPC hPR hCR
        (repeat (rename Fr _ _ _ _ => zo; clear zo))
        (repeat (rename News _ _ _ _ => zo; clear zo))
        (repeat (rename _ ≠ _ ∧ _ ≠ _ ∧ _ ≠ _ ∧ _ ≠ _ ∧ _ => zo; clear zo))
        intro i t m₂ nx h tk own hin hoff hJ F₁ N₁
        obtain ⟨oP2, oC2, o32, rfl, po3, ⟨c3, d3⟩, e1, e2, e3, e4, e5, e6, e7⟩ := hJ
        simp only [List.cons_append, List.nil_append, List.append_assoc] at N₁
        refine' wpAny_wider (A' := topT _ (envOfC (Str.ofString "law") lawScope _ _ _) _) (turn1_walk ?B_1 ?F_1 ?X_1 ?N_1 ?T_1 ?po_1 ?hb_1 ?d1_1 ?d2_1 ?d3_1 n0.l n1 n2 n3 n4 n5 n6 ?z1_1 ?z2_1 ?z3_1 ?hFT_1 ?hfd_1 ?hUX_1 ?hud_1 ?hST_1 ?hNM_1 ?hi_1 ?hl_1 ?hbw_1 ?hus_1 ?hxl_1 ?hxs_1 ?ge4_1 ?ge5_1 ?hdf_1 ?ge1_1 ?ge2_1 ?hun_1 ?hu_1 ?htu_1 ?hpu_1 ?fin_1) rfl (Nat.le_of_ble_eq_true rfl) rfl rfl (Nat.le_of_ble_eq_true rfl)
        case F_1 => exact F₁
        case N_1 => exact N₁
        case B_1 => k_asm
        case X_1 => k_asm
        case T_1 => k_asm
        case po_1 => exact po3
        case hb_1 => (have : i < 6 := hin); omega
        case d1_1 => exact d1
        case d2_1 => exact d2
        case d3_1 => exact d3
        case z1_1 => (repeat' (first | exact w1.l | exact off_app dT1 (fun p hp => hoff p hp _ (.head _)) | refine off_cons ?_ ?_)); all_goals omega
        case z2_1 => (repeat' (first | exact w2.l | exact off_app dT2 (fun p hp => hoff p hp _ (.tail _ (.head _))) | refine off_cons ?_ ?_)); all_goals omega
        case z3_1 => (repeat' (first | exact w3.l | exact off_app dT3 (fun p hp => hoff p hp _ (.tail _ (.tail _ (.head _)))) | refine off_cons ?_ ?_)); all_goals omega
        case hFT_1 => exact .head _
        case hfd_1 => exact .tail _ (.head _)
        case hUX_1 => exact .tail _ (.tail _ (.head _))
        case hud_1 => exact .tail _ (.tail _ (.tail _ (.head _)))
        case hST_1 => exact .tail _ (.tail _ (.tail _ (.tail _ (.head _))))
        case hNM_1 => exact .tail _ (.tail _ (.tail _ (.tail _ (.tail _ (.head _)))))
        case hi_1 => exact hks
        case hl_1 => exact hkl97
        case hbw_1 => exact hkb
        case hus_1 => exact hnm
        case hxl_1 => exact hnl.1
        case hxs_1 => exact hnl.2
        case ge1_1 => exact (if_neg (by decide)).trans e1
        case ge2_1 => exact (if_neg (by decide)).trans e2
        case ge4_1 => exact (if_neg (by decide)).trans e4
        case ge5_1 => exact (if_neg (by decide)).trans e5
        case hdf_1 => exact ⟨by omega, by omega⟩
        case hun_1 => exact ⟨by omega, by omega⟩
        case hu_1 => assumption
        case htu_1 => exact ⟨by omega, by omega⟩
        case hpu_1 => exact ⟨by omega, by omega⟩
        case fin_1 =>
          intro oP' oC' o3' c3' m' h' tk' po' d3' keep F' N'
          refine' fin_end hoff rfl F' N' po' ?gb_1 d3' ((keep _ (by decide) (by decide) (by decide) (by decide)).trans ((if_neg (by decide)).trans e1)) ((keep _ (by decide) (by decide) (by decide) (by decide)).trans ((if_neg (by decide)).trans e2)) ((keep _ (by decide) (by decide) (by decide) (by decide)).trans ((if_neg (by decide)).trans e3)) ((keep _ (by decide) (by decide) (by decide) (by decide)).trans ((if_neg (by decide)).trans e4)) ((keep _ (by decide) (by decide) (by decide) (by decide)).trans ((if_neg (by decide)).trans e5)) ((keep _ (by decide) (by decide) (by decide) (by decide)).trans ((if_neg (by decide)).trans e6)) ((keep _ (by decide) (by decide) (by decide) (by decide)).trans ((if_neg (by decide)).trans e7)) (.head _) (.tail _ (.head _)) (.tail _ (.tail _ (.head _))) ?g4_1 ?g5_1
          case gb_1 => omega
          case g4_1 => kcf_all
          case g5_1 => (repeat (first | exact fun p hp => hp | refine sub_tail ?_))
      case done9_1 =>
        intro m₂ nx h tk hJ F₁ N₁
        obtain ⟨oP2, oC2, o32, rfl, po3, ⟨c3, d3⟩, e1, e2, e3, e4, e5, e6, e7⟩ := hJ
        k_steps
    · k_steps
      unfold Halt
      rename Fr _ _ _ _ => F9
      rename News _ _ _ _ => N9
      rename Pot _ _ _ _ => po9
      have N8 := news_fin2 N9
      clear N9
      (repeat (rename LCg.Off1 _ _ => zo; clear zo))
      refine' iter_rangeJ (FinJ P C _ _ T1 _ _ _ _ _ _ _ 90) ?hh9_2 ?hr9_2 ?hs9_2 ?hz9_2 ?F9_2 ?N9_2 ?hj9_2 ?turn9_2 ?done9_2
      case hh9_2 => rfl
      case hr9_2 => assumption
      case hs9_2 => decide
      case hz9_2 => exact rangeSize_nat _ _
      case F9_2 => exact F9
      case N9_2 => exact N8
      case hj9_2 =>
        refine' finJ_start ?zp_2 ?zd_2 ?z1_2 ?z2_2 ?z3_2 ?z4_2 ?z5_2 ?z6_2 ?z7_2
        case zp_2 => exact po9.mono (by decide)
        case zd_2 => assumption
        case z1_2 => exact rfl
        case z2_2 => exact rfl
        case z3_2 => exact rfl
        case z4_2 => exact rfl
        case z5_2 => exact rfl
        case z6_2 => exact rfl
        case z7_2 => exact rfl
      case turn9_2 =>
        clear F9 N8
        have n0 : NeA P C := hPC
        have n1 : NeA _ P := hPR.1
        have n2 : NeA _ P := hPR.2.1
        have n3 : NeA _ P := hPR.2.2
        have n4 : NeA _ C := hCR.1
        have n5 : NeA _ C := hCR.2.1
        have n6 : NeA _ C := hCR.2.2
        clear hPC hPR hCR
        (repeat (rename Fr _ _ _ _ => zo; clear zo))
        (repeat (rename News _ _ _ _ => zo; clear zo))
        (repeat (rename _ ≠ _ ∧ _ ≠ _ ∧ _ ≠ _ ∧ _ ≠ _ ∧ _ => zo; clear zo))
        intro i t m₂ nx h tk own hin hoff hJ F₁ N₁
        obtain ⟨oP2, oC2, o32, rfl, po3, ⟨c3, d3⟩, e1, e2, e3, e4, e5, e6, e7⟩ := hJ
        simp only [List.cons_append, List.nil_append, List.append_assoc] at N₁
        refine' wpAny_wider (A' := topT _ (envOfC (Str.ofString "law") lawScope _ _ _) _) (turn2_walk ?B_2 ?F_2 ?X_2 ?N_2 ?T_2 ?po_2 ?hb_2 ?d1_2 ?d2_2 ?d3_2 n0.l n1 n2 n3 n4 n5 n6 ?z1_2 ?z2_2 ?z3_2 ?hFT_2 ?hfd_2 ?hUX_2 ?hud_2 ?hST_2 ?hCT_2 ?hD_2 ?hDR_2 ?hD2_2 ?hDR2_2 ?ge6_2 ?ge3_2 ?ge7_2 ?hdf_2 ?ge1_2 ?ge2_2 ?hun_2 ?hu_2 ?htu_2 ?hpu_2 ?fin_2) rfl (Nat.le_of_ble_eq_true rfl) rfl rfl (Nat.le_of_ble_eq_true rfl)
        case F_2 => exact F₁
        case N_2 => exact N₁
        case B_2 => k_asm
        case X_2 => k_asm
        case T_2 => k_asm
        case po_2 => exact po3
        case hb_2 => (have : i < 6 := hin); omega
        case d1_2 => exact d1
        case d2_2 => exact d2
        case d3_2 => exact d3
        case z1_2 => (repeat' (first | exact off_app dT1 (fun p hp => hoff p hp _ (.head _)) | refine off_cons ?_ ?_)); all_goals omega
        case z2_2 => (repeat' (first | exact off_app dT2 (fun p hp => hoff p hp _ (.tail _ (.head _))) | refine off_cons ?_ ?_)); all_goals omega
        case z3_2 => (repeat' (first | exact off_app dT3 (fun p hp => hoff p hp _ (.tail _ (.tail _ (.head _)))) | refine off_cons ?_ ?_)); all_goals omega
        case hFT_2 => exact .head _
        case hfd_2 => exact .tail _ (.head _)
        case hUX_2 => exact .tail _ (.tail _ (.head _))
        case hud_2 => exact .tail _ (.tail _ (.tail _ (.head _)))
        case hCT_2 => exact .tail _ (.tail _ (.tail _ (.tail _ (.head _))))
        case hST_2 => exact .tail _ (.tail _ (.tail _ (.tail _ (.tail _ (.head _)))))
        case hD_2 => assumption
        case hDR_2 => (repeat (first | exact fun p hp => List.mem_append.mpr (.inl (s2 p hp)) | refine sub_tail ?_))
        case hD2_2 => assumption
        case hDR2_2 => (repeat (first | exact fun p hp => List.mem_append.mpr (.inl (s1 p hp)) | refine sub_tail ?_))
        case ge1_2 => exact (if_neg (by decide)).trans e1
        case ge2_2 => exact (if_neg (by decide)).trans e2
        case ge6_2 => exact (if_neg (by decide)).trans e6
        case ge3_2 => exact (if_neg (by decide)).trans e3
        case ge7_2 => exact (if_neg (by decide)).trans e7
        case hdf_2 => exact ⟨by omega, by omega⟩
        case hun_2 => exact ⟨by omega, by omega⟩
        case hu_2 => assumption
        case htu_2 => exact ⟨by omega, by omega⟩
        case hpu_2 => exact ⟨by omega, by omega⟩
        case fin_2 =>
          intro oP' oC' o3' c3' m' h' tk' po' d3' keep F' N'
          refine' fin_end hoff rfl F' N' po' ?gb_2 d3' ((keep _ (by decide) (by decide) (by decide) (by decide)).trans ((if_neg (by decide)).trans e1)) ((keep _ (by decide) (by decide) (by decide) (by decide)).trans ((if_neg (by decide)).trans e2)) ((keep _ (by decide) (by decide) (by decide) (by decide)).trans ((if_neg (by decide)).trans e3)) ((keep _ (by decide) (by decide) (by decide) (by decide)).trans ((if_neg (by decide)).trans e4)) ((keep _ (by decide) (by decide) (by decide) (by decide)).trans ((if_neg (by decide)).trans e5)) ((keep _ (by decide) (by decide) (by decide) (by decide)).trans ((if_neg (by decide)).trans e6)) ((keep _ (by decide) (by decide) (by decide) (by decide)).trans ((if_neg (by decide)).trans e7)) (.head _) (.tail _ (.head _)) (.tail _ (.tail _ (.head _))) ?g4_2 ?g5_2
          case gb_2 => omega
          case g4_2 => kcf_all
          case g5_2 => (repeat (first | exact fun p hp => hp | refine sub_tail ?_))
      case done9_2 =>
        intro m₂ nx h tk hJ F₁ N₁
        obtain ⟨oP2, oC2, o32, rfl, po3, ⟨c3, d3⟩, e1, e2, e3, e4, e5, e6, e7⟩ := hJ
        k_steps
end
end Mine
theorem PySem.Challenge.cw_og0167_01_holds : PySem.Challenge.rw_og0167_01.Holds := by
  exact Mine.law_all
