import PyProof.Rows.All
import Wide.All
import OpenK.AllK
import Wide.FinOn
import Lean
import PySem.Challenge.RW_sq0033_01
open PySem PySem.W PyProof.Rows
set_option Elab.async false
set_option linter.unusedVariables false
set_option linter.unusedSimpArgs false
namespace Mine
section
set_option maxRecDepth 100000
set_option autoImplicit false
/-! defs of the text -/
noncomputable def fdBody : Stmt → List Stmt
  | .FunctionDef (body := b) .. => b
  | _ => []
noncomputable def fdArgs : Stmt → Arguments
  | .FunctionDef (args := a) .. => a
  | _ => ⟨[], [], none, [], [], none, []⟩
noncomputable def fdName : Stmt → Str
  | .FunctionDef (name := a) .. => a
  | _ => ""
noncomputable def fdScope : Stmt → Scope
  | .FunctionDef (scope := s) .. => s
  | _ => { kind := .module, names := [], isGenerator := false, isCoroutine := false, more := [] }
noncomputable def cdBody : Stmt → List Stmt
  | .ClassDef (body := b) .. => b
  | _ => []
noncomputable def top (n : Nat) : Stmt := (PySem.Challenge.pw_sq0033_01.main.body)[n]?.getD (.Pass ⟨0, 0, 0, 0⟩)
noncomputable def sub (n k : Nat) : Stmt := (cdBody (top n))[k]?.getD (.Pass ⟨0, 0, 0, 0⟩)

end
section
set_option maxRecDepth 100000
set_option autoImplicit false
/-! what the walk needs of the heap behind the top, seen at once -/
noncomputable def fragOf (as : List Addr) (h : Heap) : Frag := as.filterMap fun a => match h.get? a with
  | some o => some (a, o)
  | none => none
theorem fragOf_in (as : List Addr) (h : Heap) : (fragOf as h).In h := by
  intro a o e
  unfold fragOf at e
  induction as with
  | nil => cases e
  | cons b as ih =>
    rw [List.filterMap_cons] at e
    cases q : h.get? b with
    | none => rw [q] at e; exact ih e
    | some x =>
      rw [q] at e
      dsimp only at e
      rw [List.lookup_cons] at e
      by_cases z : a == b
      · rw [z] at e
        cases e
        rw [eq_of_beq z]; exact q
      · simp only [Bool.not_eq_true] at z
        rw [z] at e; exact ih e
noncomputable def intAt (x : Option (Option Value)) : Option Int := match x with
  | some (some (.int i _)) => some i
  | _ => none
structure FnPart where
  name : Str
  qual : Str
  params : Arguments
  body : FuncBody
  scope : Scope
  globals : Addr
  closure : List (Str × Addr)
  dV : Value
  kV : Value
  bi : Addr
  cd : Bool
noncomputable def fnSeen (K : Frag) (q : Str) (f : Addr) : Option FnPart := match K.lookup f with
  | some ⟨_, _, .func d, _⟩ => some ⟨d.name, d.qualname, d.params, d.body, d.scope, d.globals, d.closure, d.defaults, d.kwdefaults, d.builtins, codeIn K d.code q⟩
  | _ => none
noncomputable def fnGood (q : Str) (st : Stmt) : Option FnPart := some ⟨fdName st, q, fdArgs st, .stmts (fdBody st), fdScope st, mainGlobals, [], .none, .none, builtinsNs, true⟩
noncomputable def namesInt : List (Str × Int) := [("DOWN_1", 157), ("FIRST_AGAIN", 4), ("FIRST_FREE", 1), ("FIRST_SEEN", 1), ("FIRST_SET", 5), ("FIXED", 3), ("FREE", 0), ("IS_FIRST", 4), ("IS_SECOND", 5), ("MAX_DIMEN", 1073741823), ("NONE_SEEN", 0), ("POP", 142), ("PUSH", 141), ("RIGHT_1", 143), ("SECOND_AGAIN", 9), ("SECOND_FREE", 2), ("SECOND_SEEN", 2), ("SECOND_SET", 10), ("SPECIAL_1", 239)]
noncomputable def namesBi : List Str := ["abs", "bytes", "dict", "int", "len", "list", "max", "range", "sum"]
noncomputable def namesFn : List (Str × Addr × Nat) := [("put_number", 93, 12), ("put_signed", 100, 13), ("put_counted", 107, 14), ("check_place", 114, 15), ("barred", 163, 17), ("_law_box", 245, 20), ("_law_take", 252, 21), ("_law_steps", 259, 22), ("_law_written", 266, 23), ("_law_signed", 273, 24), ("_law_move", 280, 25), ("_law_run", 287, 26), ("_law_cost", 292, 27)]
noncomputable def methM : List (Str × Str × Addr × Nat) := [("prune", "Moves.prune", 135, 1), ("hit", "Moves.hit", 149, 3), ("move", "Moves.move", 142, 2), ("__init__", "Moves.__init__", 128, 0)]
noncomputable def methP : List (Str × Str × Addr × Nat) := [("open", "PageWriter.open", 184, 1), ("close", "PageWriter.close", 191, 2), ("go_across", "PageWriter.go_across", 198, 3), ("go_down", "PageWriter.go_down", 205, 4), ("special", "PageWriter.special", 233, 8), ("__init__", "PageWriter.__init__", 177, 0)]
noncomputable def attrM : List Str := ["plain", "rows"]
noncomputable def attrP : List Str := ["across", "deepest", "depth", "down", "h", "octets", "v", "font", "fonts"]
structure ClsSeen where
  plain : Bool
  dict : Bool
  makes : Bool
  keep : Bool
  over : Bool
  setattr : Option (Option Value)
  finds : List (Option (Option Value))
  takers : List (Option (Option Value))
  meths : List (Option (Option Value) × Bool × Bool × Option FnPart)
noncomputable def clsSeen (K : Frag) (C : Addr) (as : List Str) (ms : List (Str × Str × Addr × Nat)) : ClsSeen :=
  ⟨plainGet K C "", hasDictIn K C, makesIn K C, keepIn K (.ref C), plainOver K C, findIn K (.ref C) "__setattr__", as.map fun n => findIn K (.ref C) n, as.map fun n => takerIn K C n,
    ms.map fun m => (findIn K (.ref C) m.1, isFn K (.ref m.2.2.1), keepIn K (.ref m.2.2.1), fnSeen K m.2.1 m.2.2.1)⟩
noncomputable def clsGood (i : Nat) (as : List Str) (ms : List (Str × Str × Addr × Nat)) : ClsSeen :=
  ⟨true, true, true, true, true, some (some (.builtin "object.__setattr__")), as.map fun _ => some none, as.map fun _ => some none, ms.map fun m => (some (some (.ref m.2.2.1)), true, true, fnGood m.2.1 (sub i m.2.2.2))⟩
structure KSeen where
  nums : List (Option Int)
  bis : List (Option (Option Value))
  fns : List (Option (Option Value) × Bool × Option FnPart)
  clsM : Option (Option Value)
  clsP : Option (Option Value)
  mm : ClsSeen
  pp : ClsSeen
noncomputable def kSeen (K : Frag) : KSeen :=
  ⟨namesInt.map fun x => intAt (nsIn K mainGlobals x.1), namesBi.map fun x => nsIn K mainGlobals x, namesFn.map fun x => (nsIn K mainGlobals x.1, keepIn K (.ref x.2.1), fnSeen K x.1 x.2.1), nsIn K mainGlobals "Moves", nsIn K mainGlobals "PageWriter", clsSeen K 152 attrM methM, clsSeen K 236 attrP methP⟩
noncomputable def kGood : KSeen :=
  ⟨namesInt.map fun x => some x.2, namesBi.map fun _ => some none, namesFn.map fun x => (some (some (.ref x.2.1)), true, fnGood x.1 (top x.2.2)), some (some (.ref 152)), some (some (.ref 236)), clsGood 16 attrM methM, clsGood 18 attrP methP⟩
noncomputable def myHook (as : List Addr) : Hook where
  α := KSeen
  obs := fun s => kSeen (fragOf as s.heap)
  val := fun _ => kGood
  says := fun _ h => ∃ K : Frag, K.In h ∧ kSeen K = kGood
  of := fun _ s e => ⟨_, fragOf_in as s.heap, e⟩
  keeps := fun _ _ _ Y k => by obtain ⟨K, a, b⟩ := Y; exact ⟨K, a.keeps k, b⟩

end
section
set_option maxRecDepth 100000
set_option autoImplicit false
open PySem.Challenge (rw_sq0033_01 pw_sq0033_01)
noncomputable def myView : Program := { pw_sq0033_01 with main := { pw_sq0033_01.main with body := [top 0, top 2, top 3, top 4, top 5, top 7, top 8, top 9, top 10, top 11, top 12, top 13, top 14, top 15, top 16, top 17, top 18, top 20, top 21, top 22, top 23, top 24, top 25, top 26, top 27, top 28] } }
noncomputable def myLv : List (Str × WData) := [("MAX_DIMEN", .int 1073741823), ("SET_1", .int 128), ("SET_RULE", .int 132), ("PUT_1", .int 133), ("PUT_RULE", .int 137), ("NO_OPERATION", .int 138), ("PAGE_BEGIN", .int 139), ("PAGE_END", .int 140), ("PUSH", .int 141), ("POP", .int 142), ("RIGHT_1", .int 143), ("DOWN_1", .int 157), ("FONT_0", .int 171), ("FONT_1", .int 235), ("SPECIAL_1", .int 239), ("FONT_DEF_1", .int 243), ("PREAMBLE", .int 247), ("POSTAMBLE", .int 248), ("POST_POST", .int 249), ("FIRST_SET", .int 5), ("SECOND_SET", .int 10), ("FIRST_AGAIN", .int 4), ("SECOND_AGAIN", .int 9), ("FREE", .int 0), ("FIRST_FREE", .int 1), ("SECOND_FREE", .int 2), ("FIXED", .int 3), ("IS_FIRST", .int 4), ("IS_SECOND", .int 5), ("NONE_SEEN", .int 0), ("FIRST_SEEN", .int 1), ("SECOND_SEEN", .int 2)]
noncomputable def myLoose : List Str := [Str.ofString "PageError", Str.ofString "MAX_DIMEN", Str.ofString "SET_1", Str.ofString "SET_RULE", Str.ofString "PUT_1", Str.ofString "PUT_RULE", Str.ofString "NO_OPERATION", Str.ofString "PAGE_BEGIN", Str.ofString "PAGE_END", Str.ofString "PUSH", Str.ofString "POP", Str.ofString "RIGHT_1", Str.ofString "DOWN_1", Str.ofString "FONT_0", Str.ofString "FONT_1", Str.ofString "SPECIAL_1", Str.ofString "FONT_DEF_1", Str.ofString "PREAMBLE", Str.ofString "POSTAMBLE", Str.ofString "POST_POST", Str.ofString "FIRST_SET", Str.ofString "SECOND_SET", Str.ofString "FIRST_AGAIN", Str.ofString "SECOND_AGAIN", Str.ofString "FREE", Str.ofString "FIRST_FREE", Str.ofString "SECOND_FREE", Str.ofString "FIXED", Str.ofString "IS_FIRST", Str.ofString "IS_SECOND", Str.ofString "NONE_SEEN", Str.ofString "FIRST_SEEN", Str.ofString "SECOND_SEEN"]
noncomputable def myAs : List Addr := [3, 92, 93, 99, 100, 106, 107, 113, 114, 127, 128, 134, 135, 141, 142, 148, 149, 151, 152, 162, 163, 176, 177, 183, 184, 190, 191, 197, 198, 204, 205, 232, 233, 235, 236, 244, 245, 251, 252, 258, 259, 265, 266, 272, 273, 279, 280, 286, 287, 291, 292]
noncomputable def myXt (s : Shared) : Bool := and (xlAt myView myLv s) (recOk (RowW.records rw_sq0033_01.row.toRowW) s)
theorem xt_and {a b : Bool} (h : and a b = true) : a = true ∧ b = true := by cases a <;> cases b <;> first | exact ⟨rfl, rfl⟩ | cases h
theorem xt1 (s : Shared) (e : myXt s = true) : xlAt myView myLv s = true := (xt_and (a := xlAt myView myLv s) (b := recOk (RowW.records rw_sq0033_01.row.toRowW) s) e).1
theorem xt2 (s : Shared) (e : myXt s = true) : recOk (RowW.records rw_sq0033_01.row.toRowW) s = true := (xt_and (a := xlAt myView myLv s) (b := recOk (RowW.records rw_sq0033_01.row.toRowW) s) e).2
end
section
set_option maxRecDepth 100000
set_option autoImplicit false
open PySem.Challenge (rw_sq0033_01 pw_sq0033_01)
noncomputable abbrev myProg : Program := rw_sq0033_01.row.prog
noncomputable abbrev myEnv : Env := { scope := pw_sq0033_01.main.scope, locals := mainNs, globals := mainNs, cells := [], code := .ref 13, frame := some 14 }
noncomputable abbrev myBody : List Stmt := behindTheImports myProg
noncomputable abbrev myCode : Code := .body myBody myEnv
/-! the states ahead of the text and behind its statements 7, 12 and 19 (printed by wip/mkstate.py) -/
noncomputable def en (P : Params) (x : Str) (n : Nat) (v : Value) : DictEntry := { hash := PyData.keyHash P x, key := .str x n, val := v }
noncomputable def treeA (P : Params) : BT :=
 (.node (boot_o_0 P) (.node (boot_o_1 P) (.node (boot_o_3 P) (.node (boot_o_7 P) .nil
 .nil)
 (.node { cls := .type "tuple", data := .seq #[] } .nil
 .nil))
 (.node (boot_o_5 P) (.node (boot_o_9 P) .nil
 .nil)
 (.node { cls := .type "code", data := .fields #[.str "<module>" 182, .str "<module>" 183, .str "/claim/cut.py" 184, .int 1 0, .int 0 0, .int 0 0, .int 0 0, .int 0 0, .ref 11, .bool false, .int 181 0, .ref 12, .none, .none, .none, .none, .int 185 0, .int 1 0, .str "/claim/cut.py" 186] } .nil
 .nil)))
 (.node (boot_o_2 P) (.node (boot_o_4 P) (.node (boot_o_8 P) .nil
 .nil)
 (.node { cls := .none, data := .fields #[] } .nil
 .nil))
 (.node (boot_o_6 P) (.node (boot_o_10 P) .nil
 .nil)
 (.node { cls := .type "frame", slots := #[some (.ref 13), some (.ref 3), some (.ref 3), none, some (.str "__main__" 164), none, some (.ref 0)] } .nil
 .nil))))
noncomputable def sA (w : World) (os : OsState) : SharedT := ⟨treeA w.params, 15, {}, Array.mk [], {}, 187, os⟩
noncomputable abbrev posA : Pos := ⟨0, 0, 0, 0⟩
noncomputable def treeB (P : Params) : BT :=
 (.node (boot_o_0 P) (.node (boot_o_1 P) (.node { cls := .type "dict", data := .dict #[en P "__name__" 165 (.str "gluepage.dvi" 262), en P "__doc__" 166 (.none), en P "__package__" 167 (.none), en P "__loader__" 168 (.builtin "__main__.__loader__#opaque"), en P "__spec__" 169 (.none), en P "__annotations__" 170 (.ref 6), en P "__builtins__" 171 (.ref 4), en P "__file__" 173 (.str "/claim/cut.py" 172), en P "__cached__" 174 (.none), en P "_wall" 193 (.ref 21), en P "PageError" 223 (.ref 39), en P "Overflow" 239 (.ref 52), en P "TooDeep" 255 (.ref 64), en P "MAX_DIMEN" 261 (.int 1073741823 260)] 14 } (.node (boot_o_7 P) (.node { cls := .type "tuple", data := .seq #[] } (.node { cls := .none, data := .fields #[] } (.node { cls := .type "dict", data := .dict #[en P "__module__" 247 (.str "gluepage.errors" 194), en P "__firstlineno__" 251 (.int 11 250), en P "__static_attributes__" 252 (.ref 62), en P "__doc__" 253 (.none)] 2 } .nil
 .nil)
 .nil)
 (.node { cls := .none, data := .fields #[] } .nil
 .nil))
 (.node { cls := .type "builtin_function_or_method", data := .fields #[.builtin "type.__prepare__", .type "type"] } (.node { cls := .type "type", data := .cls { name := "PageError", bases := [.type "ValueError"], mro := [.ref 39, .type "ValueError", .type "Exception", .type "BaseException", .type "object"], ns := 38, qualname := "PageError", subclasses := [.ref 52, .ref 64] }, slots := #[some (.ref 22), none, some (.str "PageError" 196), some (.str "PageError" 204), some (.builtin "ValueError.__new__"), some (.bool true)] } .nil
 .nil)
 (.node { cls := .type "tuple", data := .seq #[.ref 39] } .nil
 .nil)))
 (.node { cls := .type "tuple", data := .seq #[] } (.node { cls := .none, data := .func { name := "_wall", qualname := "_wall", params := fdArgs (top 0), body := .stmts (fdBody (top 0)), scope := fdScope (top 0), globals := 0, closure := [], defaults := .none, kwdefaults := .none } } (.node { cls := .type "code", data := .fields #[.str "__init__" 209, .str "PageError.__init__" 210, .str "/claim/cut.py" 211, .int 7 0, .int 2 0, .int 0 0, .int 0 0, .int 3 0, .ref 30, .bool true, .int 181 0, .ref 31, .none, .ref 32, .ref 33, .ref 34, .int 214 0, .int 7 0, .str "/claim/cut.py" 215] } .nil
 .nil)
 (.node { cls := .type "dict", data := .dict #[en P "__module__" 231 (.str "gluepage.errors" 194), en P "__firstlineno__" 235 (.int 9 234), en P "__static_attributes__" 236 (.ref 50), en P "__doc__" 237 (.none)] 2 } .nil
 .nil))
 (.node { cls := .type "code", data := .fields #[.str "PageError" 198, .str "PageError" 199, .str "/claim/cut.py" 200, .int 5 0, .int 0 0, .int 0 0, .int 0 0, .int 0 0, .ref 25, .bool false, .int 181 0, .ref 26, .none, .none, .none, .none, .int 201 0, .int 5 0, .str "/claim/cut.py" 202] } (.node { cls := .type "tuple", data := .seq #[.ref 39] } .nil
 .nil)
 (.node { cls := .none, data := .fields #[] } .nil
 .nil))))
 (.node (boot_o_5 P) (.node (boot_o_9 P) (.node { cls := .type "tuple", data := .seq #[.str "k" 190] } (.node { cls := .type "tuple", data := .seq #[] } (.node { cls := .type "super", data := .fields #[.ref 64, .ref 64, .ref 64] } .nil
 .nil)
 .nil)
 (.node { cls := .type "frame", slots := #[some (.ref 48), some (.ref 3), some (.ref 45), none, some (.str "gluepage.errors" 194), none, some (.ref 0)] } .nil
 .nil))
 (.node { cls := .type "tuple", data := .seq #[] } (.node { cls := .type "super", data := .fields #[.ref 39, .ref 39, .ref 39] } .nil
 .nil)
 (.node { cls := .type "dict", data := .dict #[en P "__module__" 247 (.str "gluepage.errors" 194), en P "__qualname__" 249 (.str "TooDeep" 248), en P "__firstlineno__" 251 (.int 11 250), en P "__static_attributes__" 252 (.ref 62)] 4 } .nil
 .nil)))
 (.node { cls := .type "code", data := .fields #[.str "<module>" 182, .str "<module>" 183, .str "/claim/cut.py" 184, .int 1 0, .int 0 0, .int 0 0, .int 0 0, .int 0 0, .ref 11, .bool false, .int 181 0, .ref 12, .none, .none, .none, .none, .int 185 0, .int 1 0, .str "/claim/cut.py" 186] } (.node { cls := .type "function", data := .func { name := "_wall", qualname := "_wall", params := fdArgs (top 0), body := .stmts (fdBody (top 0)), scope := fdScope (top 0), globals := 3, closure := [], defaults := .none, kwdefaults := .none, pyModule := .str "__main__" 164, code := .ref 20 } } (.node { cls := .type "tuple", data := .seq #[.str "reason" 217] } .nil
 .nil)
 (.node { cls := .type "super", data := .fields #[.ref 52, .ref 52, .ref 52] } .nil
 .nil))
 (.node { cls := .type "tuple", data := .seq #[.str "" 208] } (.node { cls := .type "dict", data := .dict #[en P "__module__" 231 (.str "gluepage.errors" 194), en P "__qualname__" 233 (.str "Overflow" 232), en P "__firstlineno__" 235 (.int 9 234), en P "__static_attributes__" 236 (.ref 50)] 4 } .nil
 .nil)
 (.node { cls := .type "frame", slots := #[some (.ref 60), some (.ref 3), some (.ref 57), none, some (.str "gluepage.errors" 194), none, some (.ref 0)] } .nil
 .nil)))))
 (.node (boot_o_2 P) (.node (boot_o_4 P) (.node (boot_o_8 P) (.node { cls := .none, data := .fields #[] } (.node { cls := .type "tuple", data := .seq #[.str "self" 212, .str "reason" 213] } (.node { cls := .type "type", data := .cls { name := "TooDeep", bases := [.ref 39], mro := [.ref 64, .ref 39, .type "ValueError", .type "Exception", .type "BaseException", .type "object"], ns := 63, qualname := "TooDeep" }, slots := #[some (.ref 55), none, some (.str "TooDeep" 240), some (.str "TooDeep" 248), some (.builtin "ValueError.__new__"), some (.bool true)] } .nil
 .nil)
 .nil)
 (.node { cls := .type "code", data := .fields #[.str "Overflow" 226, .str "Overflow" 227, .str "/claim/cut.py" 228, .int 9 0, .int 0 0, .int 0 0, .int 0 0, .int 0 0, .ref 46, .bool false, .int 181 0, .ref 47, .none, .none, .none, .none, .int 229 0, .int 9 0, .str "/claim/cut.py" 230] } .nil
 .nil))
 (.node { cls := .type "dict", data := .dict #[en P "__module__" 203 (.str "gluepage.errors" 194), en P "__qualname__" 205 (.str "PageError" 204), en P "__firstlineno__" 207 (.int 5 206), en P "__init__" 216 (.ref 36), en P "__static_attributes__" 218 (.ref 37)] 5 } (.node { cls := .type "getset_descriptor", data := .fields #[.str "__weakref__" 219, .ref 39, .builtin "ExceptionGroup.__weakref__", .none] } .nil
 .nil)
 (.node { cls := .type "builtin_function_or_method", data := .fields #[.builtin "type.__prepare__", .type "type"] } .nil
 .nil)))
 (.node { cls := .none, data := .fields #[.int 1 0, .int 0 0, .ref 20, .int 5 0, .int 0 0, .ref 27, .int 9 0, .int 0 0, .ref 48, .int 11 0, .int 0 0, .ref 60] } (.node { cls := .type "code", data := .fields #[.str "_wall" 187, .str "_wall" 188, .str "/claim/cut.py" 189, .int 1 0, .int 1 0, .int 0 0, .int 0 0, .int 3 0, .ref 15, .bool true, .int 181 0, .ref 16, .none, .ref 17, .ref 18, .ref 19, .int 191 0, .int 1 0, .str "/claim/cut.py" 192] } (.node { cls := .type "function", data := .func { name := "__init__", qualname := "PageError.__init__", params := fdArgs (sub 2 0), body := .stmts (fdBody (sub 2 0)), scope := fdScope (sub 2 0), globals := 3, closure := [], defaults := .ref 29, kwdefaults := .none, pyModule := .str "gluepage.errors" 194, code := .ref 35 } } .nil
 .nil)
 (.node { cls := .type "type", data := .cls { name := "Overflow", bases := [.ref 39], mro := [.ref 52, .ref 39, .type "ValueError", .type "Exception", .type "BaseException", .type "object"], ns := 51, qualname := "Overflow" }, slots := #[some (.ref 43), none, some (.str "Overflow" 224), some (.str "Overflow" 232), some (.builtin "ValueError.__new__"), some (.bool true)] } .nil
 .nil))
 (.node { cls := .type "frame", slots := #[some (.ref 27), some (.ref 3), some (.ref 24), none, some (.str "gluepage.errors" 194), none, some (.ref 0)] } (.node { cls := .type "builtin_function_or_method", data := .fields #[.builtin "type.__prepare__", .type "type"] } .nil
 .nil)
 (.node { cls := .type "code", data := .fields #[.str "TooDeep" 242, .str "TooDeep" 243, .str "/claim/cut.py" 244, .int 11 0, .int 0 0, .int 0 0, .int 0 0, .int 0 0, .ref 58, .bool false, .int 181 0, .ref 59, .none, .none, .none, .none, .int 245 0, .int 11 0, .str "/claim/cut.py" 246] } .nil
 .nil))))
 (.node (boot_o_6 P) (.node (boot_o_10 P) (.node { cls := .type "tuple", data := .seq #[] } (.node { cls := .none, data := .func { name := "__init__", qualname := "PageError.__init__", params := fdArgs (sub 2 0), body := .stmts (fdBody (sub 2 0)), scope := fdScope (sub 2 0), globals := 0, closure := [], defaults := .none, kwdefaults := .none } } (.node { cls := .type "builtin_function_or_method", data := .fields #[.builtin "object.__init_subclass__", .ref 64] } .nil
 .nil)
 .nil)
 (.node { cls := .type "tuple", data := .seq #[] } .nil
 .nil))
 (.node { cls := .none, data := .fields #[.int 7 0, .int 4 0, .ref 35] } (.node { cls := .type "builtin_function_or_method", data := .fields #[.builtin "object.__init_subclass__", .ref 39] } .nil
 .nil)
 (.node { cls := .type "tuple", data := .seq #[] } .nil
 .nil)))
 (.node { cls := .type "frame", slots := #[some (.ref 13), some (.ref 3), some (.ref 3), none, some (.str "__main__" 164), none, some (.ref 0)] } (.node { cls := .type "tuple", data := .seq #[.type "ValueError"] } (.node { cls := .type "dict", data := .dict #[en P "__module__" 203 (.str "gluepage.errors" 194), en P "__firstlineno__" 207 (.int 5 206), en P "__init__" 216 (.ref 36), en P "__static_attributes__" 218 (.ref 37), en P "__weakref__" 220 (.ref 40), en P "__doc__" 221 (.none)] 3 } .nil
 .nil)
 (.node { cls := .type "builtin_function_or_method", data := .fields #[.builtin "object.__init_subclass__", .ref 52] } .nil
 .nil))
 (.node { cls := .type "tuple", data := .seq #[] } (.node { cls := .type "tuple", data := .seq #[] } .nil
 .nil)
 (.node { cls := .type "tuple", data := .seq #[] } .nil
 .nil))))))
noncomputable def sB (w : World) (os : OsState) : SharedT := ⟨treeB w.params, 67, {}, Array.mk [], {}, 264, os⟩
noncomputable abbrev posB : Pos := ⟨14, 0, 14, 8⟩
noncomputable def treeC (P : Params) : BT :=
 (.node (boot_o_0 P) (.node (boot_o_1 P) (.node { cls := .type "dict", data := .dict #[en P "__name__" 165 (.str "gluepage.dvi" 262), en P "__doc__" 166 (.none), en P "__package__" 167 (.none), en P "__loader__" 168 (.builtin "__main__.__loader__#opaque"), en P "__spec__" 169 (.none), en P "__annotations__" 170 (.ref 6), en P "__builtins__" 171 (.ref 4), en P "__file__" 173 (.str "/claim/cut.py" 172), en P "__cached__" 174 (.none), en P "_wall" 193 (.ref 21), en P "PageError" 223 (.ref 39), en P "Overflow" 239 (.ref 52), en P "TooDeep" 255 (.ref 64), en P "MAX_DIMEN" 261 (.int 1073741823 260), en P "SET_1" 273 (.int 128 264), en P "SET_RULE" 274 (.int 132 265), en P "PUT_1" 275 (.int 133 266), en P "PUT_RULE" 276 (.int 137 267), en P "NO_OPERATION" 277 (.int 138 268), en P "PAGE_BEGIN" 278 (.int 139 269), en P "PAGE_END" 279 (.int 140 270), en P "PUSH" 280 (.int 141 271), en P "POP" 281 (.int 142 272), en P "RIGHT_1" 291 (.int 143 282), en P "DOWN_1" 292 (.int 157 283), en P "FONT_0" 293 (.int 171 284), en P "FONT_1" 294 (.int 235 285), en P "SPECIAL_1" 295 (.int 239 286), en P "FONT_DEF_1" 296 (.int 243 287), en P "PREAMBLE" 297 (.int 247 288), en P "POSTAMBLE" 298 (.int 248 289), en P "POST_POST" 299 (.int 249 290), en P "FIRST_SET" 304 (.int 5 300), en P "SECOND_SET" 305 (.int 10 301), en P "FIRST_AGAIN" 306 (.int 4 302), en P "SECOND_AGAIN" 307 (.int 9 303), en P "FREE" 314 (.int 0 308), en P "FIRST_FREE" 315 (.int 1 309), en P "SECOND_FREE" 316 (.int 2 310), en P "FIXED" 317 (.int 3 311), en P "IS_FIRST" 318 (.int 4 312), en P "IS_SECOND" 319 (.int 5 313), en P "NONE_SEEN" 323 (.int 0 320), en P "FIRST_SEEN" 324 (.int 1 321), en P "SECOND_SEEN" 325 (.int 2 322)] 45 } (.node (boot_o_7 P) (.node { cls := .type "tuple", data := .seq #[] } (.node { cls := .none, data := .fields #[] } (.node { cls := .type "dict", data := .dict #[en P "__module__" 247 (.str "gluepage.errors" 194), en P "__firstlineno__" 251 (.int 11 250), en P "__static_attributes__" 252 (.ref 62), en P "__doc__" 253 (.none)] 2 } .nil
 .nil)
 .nil)
 (.node { cls := .none, data := .fields #[] } (.node { cls := .type "tuple", data := .seq #[.int 0 308, .int 1 309, .int 2 310, .int 3 311, .int 4 312, .int 5 313] } .nil
 .nil)
 .nil))
 (.node { cls := .type "builtin_function_or_method", data := .fields #[.builtin "type.__prepare__", .type "type"] } (.node { cls := .type "type", data := .cls { name := "PageError", bases := [.type "ValueError"], mro := [.ref 39, .type "ValueError", .type "Exception", .type "BaseException", .type "object"], ns := 38, qualname := "PageError", subclasses := [.ref 52, .ref 64] }, slots := #[some (.ref 22), none, some (.str "PageError" 196), some (.str "PageError" 204), some (.builtin "ValueError.__new__"), some (.bool true)] } (.node { cls := .type "tuple", data := .seq #[.int 143 282, .int 157 283, .int 171 284, .int 235 285, .int 239 286, .int 243 287, .int 247 288, .int 248 289, .int 249 290] } .nil
 .nil)
 .nil)
 (.node { cls := .type "tuple", data := .seq #[.ref 39] } .nil
 .nil)))
 (.node { cls := .type "tuple", data := .seq #[] } (.node { cls := .none, data := .func { name := "_wall", qualname := "_wall", params := fdArgs (top 0), body := .stmts (fdBody (top 0)), scope := fdScope (top 0), globals := 0, closure := [], defaults := .none, kwdefaults := .none } } (.node { cls := .type "code", data := .fields #[.str "__init__" 209, .str "PageError.__init__" 210, .str "/claim/cut.py" 211, .int 7 0, .int 2 0, .int 0 0, .int 0 0, .int 3 0, .ref 30, .bool true, .int 181 0, .ref 31, .none, .ref 32, .ref 33, .ref 34, .int 214 0, .int 7 0, .str "/claim/cut.py" 215] } (.node { cls := .type "tuple", data := .seq #[.int 128 264, .int 132 265, .int 133 266, .int 137 267, .int 138 268, .int 139 269, .int 140 270, .int 141 271, .int 142 272] } .nil
 .nil)
 .nil)
 (.node { cls := .type "dict", data := .dict #[en P "__module__" 231 (.str "gluepage.errors" 194), en P "__firstlineno__" 235 (.int 9 234), en P "__static_attributes__" 236 (.ref 50), en P "__doc__" 237 (.none)] 2 } (.node { cls := .type "tuple", data := .seq #[.int 0 320, .int 1 321, .int 2 322] } .nil
 .nil)
 .nil))
 (.node { cls := .type "code", data := .fields #[.str "PageError" 198, .str "PageError" 199, .str "/claim/cut.py" 200, .int 5 0, .int 0 0, .int 0 0, .int 0 0, .int 0 0, .ref 25, .bool false, .int 181 0, .ref 26, .none, .none, .none, .none, .int 201 0, .int 5 0, .str "/claim/cut.py" 202] } (.node { cls := .type "tuple", data := .seq #[.ref 39] } (.node { cls := .type "tuple", data := .seq #[.int 5 300, .int 10 301, .int 4 302, .int 9 303] } .nil
 .nil)
 .nil)
 (.node { cls := .none, data := .fields #[] } .nil
 .nil))))
 (.node (boot_o_5 P) (.node (boot_o_9 P) (.node { cls := .type "tuple", data := .seq #[.str "k" 190] } (.node { cls := .type "tuple", data := .seq #[] } (.node { cls := .type "super", data := .fields #[.ref 64, .ref 64, .ref 64] } .nil
 .nil)
 .nil)
 (.node { cls := .type "frame", slots := #[some (.ref 48), some (.ref 3), some (.ref 45), none, some (.str "gluepage.errors" 194), none, some (.ref 0)] } (.node { cls := .type "tuple", data := .seq #[] } .nil
 .nil)
 .nil))
 (.node { cls := .type "tuple", data := .seq #[] } (.node { cls := .type "super", data := .fields #[.ref 39, .ref 39, .ref 39] } (.node { cls := .type "tuple", data := .seq #[] } .nil
 .nil)
 .nil)
 (.node { cls := .type "dict", data := .dict #[en P "__module__" 247 (.str "gluepage.errors" 194), en P "__qualname__" 249 (.str "TooDeep" 248), en P "__firstlineno__" 251 (.int 11 250), en P "__static_attributes__" 252 (.ref 62)] 4 } .nil
 .nil)))
 (.node { cls := .type "code", data := .fields #[.str "<module>" 182, .str "<module>" 183, .str "/claim/cut.py" 184, .int 1 0, .int 0 0, .int 0 0, .int 0 0, .int 0 0, .ref 11, .bool false, .int 181 0, .ref 12, .none, .none, .none, .none, .int 185 0, .int 1 0, .str "/claim/cut.py" 186] } (.node { cls := .type "function", data := .func { name := "_wall", qualname := "_wall", params := fdArgs (top 0), body := .stmts (fdBody (top 0)), scope := fdScope (top 0), globals := 3, closure := [], defaults := .none, kwdefaults := .none, pyModule := .str "__main__" 164, code := .ref 20 } } (.node { cls := .type "tuple", data := .seq #[.str "reason" 217] } (.node { cls := .type "tuple", data := .seq #[] } .nil
 .nil)
 .nil)
 (.node { cls := .type "super", data := .fields #[.ref 52, .ref 52, .ref 52] } (.node { cls := .type "tuple", data := .seq #[] } .nil
 .nil)
 .nil))
 (.node { cls := .type "tuple", data := .seq #[.str "" 208] } (.node { cls := .type "dict", data := .dict #[en P "__module__" 231 (.str "gluepage.errors" 194), en P "__qualname__" 233 (.str "Overflow" 232), en P "__firstlineno__" 235 (.int 9 234), en P "__static_attributes__" 236 (.ref 50)] 4 } (.node { cls := .type "tuple", data := .seq #[] } .nil
 .nil)
 .nil)
 (.node { cls := .type "frame", slots := #[some (.ref 60), some (.ref 3), some (.ref 57), none, some (.str "gluepage.errors" 194), none, some (.ref 0)] } .nil
 .nil)))))
 (.node (boot_o_2 P) (.node (boot_o_4 P) (.node (boot_o_8 P) (.node { cls := .none, data := .fields #[] } (.node { cls := .type "tuple", data := .seq #[.str "self" 212, .str "reason" 213] } (.node { cls := .type "type", data := .cls { name := "TooDeep", bases := [.ref 39], mro := [.ref 64, .ref 39, .type "ValueError", .type "Exception", .type "BaseException", .type "object"], ns := 63, qualname := "TooDeep" }, slots := #[some (.ref 55), none, some (.str "TooDeep" 240), some (.str "TooDeep" 248), some (.builtin "ValueError.__new__"), some (.bool true)] } .nil
 .nil)
 .nil)
 (.node { cls := .type "code", data := .fields #[.str "Overflow" 226, .str "Overflow" 227, .str "/claim/cut.py" 228, .int 9 0, .int 0 0, .int 0 0, .int 0 0, .int 0 0, .ref 46, .bool false, .int 181 0, .ref 47, .none, .none, .none, .none, .int 229 0, .int 9 0, .str "/claim/cut.py" 230] } (.node { cls := .type "tuple_iterator", data := .fields #[.none, .int 6 0] } .nil
 .nil)
 .nil))
 (.node { cls := .type "dict", data := .dict #[en P "__module__" 203 (.str "gluepage.errors" 194), en P "__qualname__" 205 (.str "PageError" 204), en P "__firstlineno__" 207 (.int 5 206), en P "__init__" 216 (.ref 36), en P "__static_attributes__" 218 (.ref 37)] 5 } (.node { cls := .type "getset_descriptor", data := .fields #[.str "__weakref__" 219, .ref 39, .builtin "ExceptionGroup.__weakref__", .none] } (.node { cls := .type "tuple_iterator", data := .fields #[.none, .int 9 0] } .nil
 .nil)
 .nil)
 (.node { cls := .type "builtin_function_or_method", data := .fields #[.builtin "type.__prepare__", .type "type"] } .nil
 .nil)))
 (.node { cls := .none, data := .fields #[.int 1 0, .int 0 0, .ref 20, .int 5 0, .int 0 0, .ref 27, .int 9 0, .int 0 0, .ref 48, .int 11 0, .int 0 0, .ref 60] } (.node { cls := .type "code", data := .fields #[.str "_wall" 187, .str "_wall" 188, .str "/claim/cut.py" 189, .int 1 0, .int 1 0, .int 0 0, .int 0 0, .int 3 0, .ref 15, .bool true, .int 181 0, .ref 16, .none, .ref 17, .ref 18, .ref 19, .int 191 0, .int 1 0, .str "/claim/cut.py" 192] } (.node { cls := .type "function", data := .func { name := "__init__", qualname := "PageError.__init__", params := fdArgs (sub 2 0), body := .stmts (fdBody (sub 2 0)), scope := fdScope (sub 2 0), globals := 3, closure := [], defaults := .ref 29, kwdefaults := .none, pyModule := .str "gluepage.errors" 194, code := .ref 35 } } (.node { cls := .type "tuple_iterator", data := .fields #[.none, .int 9 0] } .nil
 .nil)
 .nil)
 (.node { cls := .type "type", data := .cls { name := "Overflow", bases := [.ref 39], mro := [.ref 52, .ref 39, .type "ValueError", .type "Exception", .type "BaseException", .type "object"], ns := 51, qualname := "Overflow" }, slots := #[some (.ref 43), none, some (.str "Overflow" 224), some (.str "Overflow" 232), some (.builtin "ValueError.__new__"), some (.bool true)] } (.node { cls := .type "tuple_iterator", data := .fields #[.none, .int 3 0] } .nil
 .nil)
 .nil))
 (.node { cls := .type "frame", slots := #[some (.ref 27), some (.ref 3), some (.ref 24), none, some (.str "gluepage.errors" 194), none, some (.ref 0)] } (.node { cls := .type "builtin_function_or_method", data := .fields #[.builtin "type.__prepare__", .type "type"] } (.node { cls := .type "tuple_iterator", data := .fields #[.none, .int 4 0] } .nil
 .nil)
 .nil)
 (.node { cls := .type "code", data := .fields #[.str "TooDeep" 242, .str "TooDeep" 243, .str "/claim/cut.py" 244, .int 11 0, .int 0 0, .int 0 0, .int 0 0, .int 0 0, .ref 58, .bool false, .int 181 0, .ref 59, .none, .none, .none, .none, .int 245 0, .int 11 0, .str "/claim/cut.py" 246] } .nil
 .nil))))
 (.node (boot_o_6 P) (.node (boot_o_10 P) (.node { cls := .type "tuple", data := .seq #[] } (.node { cls := .none, data := .func { name := "__init__", qualname := "PageError.__init__", params := fdArgs (sub 2 0), body := .stmts (fdBody (sub 2 0)), scope := fdScope (sub 2 0), globals := 0, closure := [], defaults := .none, kwdefaults := .none } } (.node { cls := .type "builtin_function_or_method", data := .fields #[.builtin "object.__init_subclass__", .ref 64] } .nil
 .nil)
 .nil)
 (.node { cls := .type "tuple", data := .seq #[] } (.node { cls := .type "StopIteration", data := .fields #[.ref 81, .none, .none, .none, .bool false, .none] } .nil
 .nil)
 .nil))
 (.node { cls := .none, data := .fields #[.int 7 0, .int 4 0, .ref 35] } (.node { cls := .type "builtin_function_or_method", data := .fields #[.builtin "object.__init_subclass__", .ref 39] } (.node { cls := .type "StopIteration", data := .fields #[.ref 73, .none, .none, .none, .bool false, .none] } .nil
 .nil)
 .nil)
 (.node { cls := .type "tuple", data := .seq #[] } .nil
 .nil)))
 (.node { cls := .type "frame", slots := #[some (.ref 13), some (.ref 3), some (.ref 3), none, some (.str "__main__" 164), none, some (.ref 0)] } (.node { cls := .type "tuple", data := .seq #[.type "ValueError"] } (.node { cls := .type "dict", data := .dict #[en P "__module__" 203 (.str "gluepage.errors" 194), en P "__firstlineno__" 207 (.int 5 206), en P "__init__" 216 (.ref 36), en P "__static_attributes__" 218 (.ref 37), en P "__weakref__" 220 (.ref 40), en P "__doc__" 221 (.none)] 3 } (.node { cls := .type "StopIteration", data := .fields #[.ref 69, .none, .none, .none, .bool false, .none] } .nil
 .nil)
 .nil)
 (.node { cls := .type "builtin_function_or_method", data := .fields #[.builtin "object.__init_subclass__", .ref 52] } (.node { cls := .type "StopIteration", data := .fields #[.ref 85, .none, .none, .none, .bool false, .none] } .nil
 .nil)
 .nil))
 (.node { cls := .type "tuple", data := .seq #[] } (.node { cls := .type "tuple", data := .seq #[] } (.node { cls := .type "StopIteration", data := .fields #[.ref 77, .none, .none, .none, .bool false, .none] } .nil
 .nil)
 .nil)
 (.node { cls := .type "tuple", data := .seq #[] } .nil
 .nil))))))
noncomputable def sC (w : World) (os : OsState) : SharedT := ⟨treeC w.params, 87, {}, Array.mk [], {}, 326, os⟩
noncomputable abbrev posC : Pos := ⟨19, 23, 19, 34⟩
noncomputable def treeD (P : Params) : BT :=
 (.node (boot_o_0 P) (.node (boot_o_1 P) (.node { cls := .type "dict", data := .dict #[en P "__name__" 165 (.str "gluepage.dvi" 262), en P "__doc__" 166 (.none), en P "__package__" 167 (.none), en P "__loader__" 168 (.builtin "__main__.__loader__#opaque"), en P "__spec__" 169 (.none), en P "__annotations__" 170 (.ref 6), en P "__builtins__" 171 (.ref 4), en P "__file__" 173 (.str "/claim/cut.py" 172), en P "__cached__" 174 (.none), en P "_wall" 193 (.ref 21), en P "PageError" 223 (.ref 39), en P "Overflow" 239 (.ref 52), en P "TooDeep" 255 (.ref 64), en P "MAX_DIMEN" 261 (.int 1073741823 260), en P "SET_1" 273 (.int 128 264), en P "SET_RULE" 274 (.int 132 265), en P "PUT_1" 275 (.int 133 266), en P "PUT_RULE" 276 (.int 137 267), en P "NO_OPERATION" 277 (.int 138 268), en P "PAGE_BEGIN" 278 (.int 139 269), en P "PAGE_END" 279 (.int 140 270), en P "PUSH" 280 (.int 141 271), en P "POP" 281 (.int 142 272), en P "RIGHT_1" 291 (.int 143 282), en P "DOWN_1" 292 (.int 157 283), en P "FONT_0" 293 (.int 171 284), en P "FONT_1" 294 (.int 235 285), en P "SPECIAL_1" 295 (.int 239 286), en P "FONT_DEF_1" 296 (.int 243 287), en P "PREAMBLE" 297 (.int 247 288), en P "POSTAMBLE" 298 (.int 248 289), en P "POST_POST" 299 (.int 249 290), en P "FIRST_SET" 304 (.int 5 300), en P "SECOND_SET" 305 (.int 10 301), en P "FIRST_AGAIN" 306 (.int 4 302), en P "SECOND_AGAIN" 307 (.int 9 303), en P "FREE" 314 (.int 0 308), en P "FIRST_FREE" 315 (.int 1 309), en P "SECOND_FREE" 316 (.int 2 310), en P "FIXED" 317 (.int 3 311), en P "IS_FIRST" 318 (.int 4 312), en P "IS_SECOND" 319 (.int 5 313), en P "NONE_SEEN" 323 (.int 0 320), en P "FIRST_SEEN" 324 (.int 1 321), en P "SECOND_SEEN" 325 (.int 2 322), en P "put_number" 335 (.ref 93), en P "put_signed" 345 (.ref 100), en P "put_counted" 355 (.ref 107), en P "check_place" 362 (.ref 114), en P "Moves" 426 (.ref 152), en P "barred" 434 (.ref 163), en P "PageWriter" 546 (.ref 236)] 52 } (.node (boot_o_7 P) (.node { cls := .type "tuple", data := .seq #[] } (.node { cls := .none, data := .fields #[] } (.node { cls := .type "dict", data := .dict #[en P "__module__" 247 (.str "gluepage.errors" 194), en P "__firstlineno__" 251 (.int 11 250), en P "__static_attributes__" 252 (.ref 62), en P "__doc__" 253 (.none)] 2 } (.node { cls := .type "code", data := .fields #[.str "__init__" 375, .str "Moves.__init__" 376, .str "/claim/cut.py" 377, .int 41 0, .int 2 0, .int 0 0, .int 0 0, .int 3 0, .ref 122, .bool true, .int 181 0, .ref 123, .none, .ref 124, .ref 125, .ref 126, .int 380 0, .int 41 0, .str "/claim/cut.py" 381] } .nil
 .nil)
 (.node { cls := .type "function", data := .func { name := "close", qualname := "PageWriter.close", params := fdArgs (sub 18 2), body := .stmts (fdBody (sub 18 2)), scope := fdScope (sub 18 2), globals := 3, closure := [], defaults := .none, kwdefaults := .none, pyModule := .str "gluepage.dvi" 262, code := .ref 190 } } .nil
 .nil))
 (.node { cls := .none, data := .fields #[] } (.node { cls := .type "tuple", data := .seq #[.str "state" 430, .str "used" 431] } .nil
 .nil)
 (.node { cls := .type "tuple", data := .seq #[] } .nil
 .nil)))
 (.node { cls := .none, data := .fields #[] } (.node { cls := .type "tuple", data := .seq #[.int 0 308, .int 1 309, .int 2 310, .int 3 311, .int 4 312, .int 5 313] } (.node { cls := .type "tuple", data := .seq #[] } .nil
 .nil)
 (.node { cls := .none, data := .fields #[] } .nil
 .nil))
 (.node { cls := .type "tuple", data := .seq #[] } (.node { cls := .none, data := .func { name := "__init__", qualname := "PageWriter.__init__", params := fdArgs (sub 18 0), body := .stmts (fdBody (sub 18 0)), scope := fdScope (sub 18 0), globals := 0, closure := [], defaults := .none, kwdefaults := .none } } .nil
 .nil)
 (.node { cls := .type "super", data := .fields #[.ref 236, .ref 236, .ref 236] } .nil
 .nil))))
 (.node { cls := .type "builtin_function_or_method", data := .fields #[.builtin "type.__prepare__", .type "type"] } (.node { cls := .type "type", data := .cls { name := "PageError", bases := [.type "ValueError"], mro := [.ref 39, .type "ValueError", .type "Exception", .type "BaseException", .type "object"], ns := 38, qualname := "PageError", subclasses := [.ref 52, .ref 64] }, slots := #[some (.ref 22), none, some (.str "PageError" 196), some (.str "PageError" 204), some (.builtin "ValueError.__new__"), some (.bool true)] } (.node { cls := .type "tuple", data := .seq #[.int 143 282, .int 157 283, .int 171 284, .int 235 285, .int 239 286, .int 243 287, .int 247 288, .int 248 289, .int 249 290] } (.node { cls := .type "function", data := .func { name := "prune", qualname := "Moves.prune", params := fdArgs (sub 16 1), body := .stmts (fdBody (sub 16 1)), scope := fdScope (sub 16 1), globals := 3, closure := [], defaults := .none, kwdefaults := .none, pyModule := .str "gluepage.dvi" 262, code := .ref 134 } } .nil
 .nil)
 (.node { cls := .type "tuple", data := .seq #[] } .nil
 .nil))
 (.node { cls := .type "tuple", data := .seq #[.str "octets" 349, .str "first" 350, .str "number" 351, .str "room" 352] } (.node { cls := .type "tuple", data := .seq #[] } .nil
 .nil)
 (.node { cls := .none, data := .func { name := "special", qualname := "PageWriter.special", params := fdArgs (sub 18 8), body := .stmts (fdBody (sub 18 8)), scope := fdScope (sub 18 8), globals := 0, closure := [], defaults := .none, kwdefaults := .none } } .nil
 .nil)))
 (.node { cls := .type "tuple", data := .seq #[.ref 39] } (.node { cls := .type "tuple", data := .seq #[] } (.node { cls := .type "dict", data := .dict #[en P "__module__" 370 (.str "gluepage.dvi" 262), en P "__firstlineno__" 374 (.int 39 373), en P "__init__" 382 (.ref 128), en P "prune" 390 (.ref 135), en P "move" 402 (.ref 142), en P "hit" 416 (.ref 149), en P "__static_attributes__" 419 (.ref 150), en P "__dict__" 421 (.ref 153), en P "__weakref__" 423 (.ref 154), en P "__doc__" 424 (.none)] 4 } .nil
 .nil)
 (.node { cls := .type "tuple", data := .seq #[.str "self" 500, .str "font" 501, .str "code" 502, .str "h" 503, .str "v" 504] } .nil
 .nil))
 (.node { cls := .none, data := .fields #[.int 41 0, .int 4 0, .ref 127, .int 45 0, .int 4 0, .ref 134, .int 49 0, .int 4 0, .ref 141, .int 61 0, .int 4 0, .ref 148] } (.node { cls := .type "code", data := .fields #[.str "open" 456, .str "PageWriter.open" 457, .str "/claim/cut.py" 458, .int 102 0, .int 2 0, .int 0 0, .int 0 0, .int 3 0, .ref 178, .bool true, .int 181 0, .ref 179, .none, .ref 180, .ref 181, .ref 182, .int 461 0, .int 102 0, .str "/claim/cut.py" 462] } .nil
 .nil)
 .nil))))
 (.node { cls := .type "tuple", data := .seq #[] } (.node { cls := .none, data := .func { name := "_wall", qualname := "_wall", params := fdArgs (top 0), body := .stmts (fdBody (top 0)), scope := fdScope (top 0), globals := 0, closure := [], defaults := .none, kwdefaults := .none } } (.node { cls := .type "code", data := .fields #[.str "__init__" 209, .str "PageError.__init__" 210, .str "/claim/cut.py" 211, .int 7 0, .int 2 0, .int 0 0, .int 0 0, .int 3 0, .ref 30, .bool true, .int 181 0, .ref 31, .none, .ref 32, .ref 33, .ref 34, .int 214 0, .int 7 0, .str "/claim/cut.py" 215] } (.node { cls := .type "tuple", data := .seq #[.int 128 264, .int 132 265, .int 133 266, .int 137 267, .int 138 268, .int 139 269, .int 140 270, .int 141 271, .int 142 272] } (.node { cls := .type "tuple", data := .seq #[.str "self" 386, .str "begin" 387] } .nil
 .nil)
 (.node { cls := .type "tuple", data := .seq #[] } .nil
 .nil))
 (.node { cls := .type "code", data := .fields #[.str "put_signed" 336, .str "put_signed" 337, .str "/claim/cut.py" 338, .int 23 0, .int 3 0, .int 0 0, .int 0 0, .int 3 0, .ref 94, .bool true, .int 181 0, .ref 95, .none, .ref 96, .ref 97, .ref 98, .int 343 0, .int 23 0, .str "/claim/cut.py" 344] } (.node { cls := .type "function", data := .func { name := "barred", qualname := "barred", params := fdArgs (top 17), body := .stmts (fdBody (top 17)), scope := fdScope (top 17), globals := 3, closure := [], defaults := .none, kwdefaults := .none, pyModule := .str "gluepage.dvi" 262, code := .ref 162 } } .nil
 .nil)
 (.node { cls := .type "tuple", data := .seq #[] } .nil
 .nil)))
 (.node { cls := .type "dict", data := .dict #[en P "__module__" 231 (.str "gluepage.errors" 194), en P "__firstlineno__" 235 (.int 9 234), en P "__static_attributes__" 236 (.ref 50), en P "__doc__" 237 (.none)] 2 } (.node { cls := .type "tuple", data := .seq #[.int 0 320, .int 1 321, .int 2 322] } (.node { cls := .none, data := .func { name := "hit", qualname := "Moves.hit", params := fdArgs (sub 16 3), body := .stmts (fdBody (sub 16 3)), scope := fdScope (sub 16 3), globals := 0, closure := [], defaults := .none, kwdefaults := .none } } .nil
 .nil)
 (.node { cls := .type "code", data := .fields #[.str "choose" 489, .str "PageWriter.choose" 490, .str "/claim/cut.py" 491, .int 130 0, .int 2 0, .int 0 0, .int 0 0, .int 3 0, .ref 206, .bool true, .int 181 0, .ref 207, .none, .ref 208, .ref 209, .ref 210, .int 494 0, .int 130 0, .str "/claim/cut.py" 495] } .nil
 .nil))
 (.node { cls := .type "tuple", data := .seq #[] } (.node { cls := .none, data := .fields #[] } .nil
 .nil)
 .nil)))
 (.node { cls := .type "code", data := .fields #[.str "PageError" 198, .str "PageError" 199, .str "/claim/cut.py" 200, .int 5 0, .int 0 0, .int 0 0, .int 0 0, .int 0 0, .ref 25, .bool false, .int 181 0, .ref 26, .none, .none, .none, .none, .int 201 0, .int 5 0, .str "/claim/cut.py" 202] } (.node { cls := .type "tuple", data := .seq #[.ref 39] } (.node { cls := .type "tuple", data := .seq #[.int 5 300, .int 10 301, .int 4 302, .int 9 303] } (.node { cls := .type "tuple", data := .seq #[] } .nil
 .nil)
 (.node { cls := .none, data := .func { name := "go_down", qualname := "PageWriter.go_down", params := fdArgs (sub 18 4), body := .stmts (fdBody (sub 18 4)), scope := fdScope (sub 18 4), globals := 0, closure := [], defaults := .none, kwdefaults := .none } } .nil
 .nil))
 (.node { cls := .type "function", data := .func { name := "put_counted", qualname := "put_counted", params := fdArgs (top 14), body := .stmts (fdBody (top 14)), scope := fdScope (top 14), globals := 3, closure := [], defaults := .none, kwdefaults := .none, pyModule := .str "gluepage.dvi" 262, code := .ref 106 } } (.node { cls := .type "tuple", data := .seq #[] } .nil
 .nil)
 (.node { cls := .type "dict", data := .dict #[en P "__module__" 442 (.str "gluepage.dvi" 262), en P "__firstlineno__" 446 (.int 89 445), en P "__init__" 455 (.ref 177), en P "open" 463 (.ref 184), en P "close" 472 (.ref 191), en P "go_across" 480 (.ref 198), en P "go_down" 488 (.ref 205), en P "choose" 496 (.ref 212), en P "letter" 507 (.ref 219), en P "rule" 519 (.ref 226), en P "special" 529 (.ref 233), en P "__static_attributes__" 539 (.ref 234), en P "__dict__" 541 (.ref 237), en P "__weakref__" 543 (.ref 238), en P "__doc__" 544 (.none)] 4 } .nil
 .nil)))
 (.node { cls := .none, data := .fields #[] } (.node { cls := .none, data := .func { name := "put_number", qualname := "put_number", params := fdArgs (top 12), body := .stmts (fdBody (top 12)), scope := fdScope (top 12), globals := 0, closure := [], defaults := .none, kwdefaults := .none } } (.node { cls := .type "super", data := .fields #[.ref 152, .ref 152, .ref 152] } .nil
 .nil)
 (.node { cls := .type "function", data := .func { name := "letter", qualname := "PageWriter.letter", params := fdArgs (sub 18 6), body := .stmts (fdBody (sub 18 6)), scope := fdScope (sub 18 6), globals := 3, closure := [], defaults := .none, kwdefaults := .none, pyModule := .str "gluepage.dvi" 262, code := .ref 218 } } .nil
 .nil))
 (.node { cls := .none, data := .fields #[] } (.node { cls := .type "tuple", data := .seq #[.str "self" 467, .str "begin" 468, .str "depth" 469] } .nil
 .nil)
 .nil)))))
 (.node (boot_o_5 P) (.node (boot_o_9 P) (.node { cls := .type "tuple", data := .seq #[.str "k" 190] } (.node { cls := .type "tuple", data := .seq #[] } (.node { cls := .type "super", data := .fields #[.ref 64, .ref 64, .ref 64] } (.node { cls := .type "tuple", data := .seq #[] } .nil
 .nil)
 (.node { cls := .none, data := .fields #[] } .nil
 .nil))
 (.node { cls := .type "tuple", data := .seq #[] } (.node { cls := .none, data := .func { name := "barred", qualname := "barred", params := fdArgs (top 17), body := .stmts (fdBody (top 17)), scope := fdScope (top 17), globals := 0, closure := [], defaults := .none, kwdefaults := .none } } .nil
 .nil)
 (.node { cls := .type "code", data := .fields #[.str "rule" 508, .str "PageWriter.rule" 509, .str "/claim/cut.py" 510, .int 136 0, .int 6 0, .int 0 0, .int 0 0, .int 3 0, .ref 220, .bool true, .int 181 0, .ref 221, .none, .ref 222, .ref 223, .ref 224, .int 517 0, .int 136 0, .str "/claim/cut.py" 518] } .nil
 .nil)))
 (.node { cls := .type "frame", slots := #[some (.ref 48), some (.ref 3), some (.ref 45), none, some (.str "gluepage.errors" 194), none, some (.ref 0)] } (.node { cls := .type "tuple", data := .seq #[] } (.node { cls := .type "tuple", data := .seq #[.str "self" 406, .str "octets" 407, .str "size" 408, .str "seen" 409, .str "place" 410, .str "there" 411, .str "spot" 412, .str "state" 413] } .nil
 .nil)
 (.node { cls := .type "tuple", data := .seq #[] } .nil
 .nil))
 (.node { cls := .type "code", data := .fields #[.str "check_place" 356, .str "check_place" 357, .str "/claim/cut.py" 358, .int 35 0, .int 1 0, .int 0 0, .int 0 0, .int 3 0, .ref 108, .bool true, .int 181 0, .ref 109, .none, .ref 110, .ref 111, .ref 112, .int 360 0, .int 35 0, .str "/claim/cut.py" 361] } (.node { cls := .type "function", data := .func { name := "__init__", qualname := "PageWriter.__init__", params := fdArgs (sub 18 0), body := .stmts (fdBody (sub 18 0)), scope := fdScope (sub 18 0), globals := 3, closure := [], defaults := .none, kwdefaults := .none, pyModule := .str "gluepage.dvi" 262, code := .ref 176 } } .nil
 .nil)
 .nil)))
 (.node { cls := .type "tuple", data := .seq #[] } (.node { cls := .type "super", data := .fields #[.ref 39, .ref 39, .ref 39] } (.node { cls := .type "tuple", data := .seq #[] } (.node { cls := .none, data := .fields #[] } .nil
 .nil)
 (.node { cls := .type "tuple", data := .seq #[.str "self" 484, .str "v" 485] } .nil
 .nil))
 (.node { cls := .none, data := .func { name := "put_counted", qualname := "put_counted", params := fdArgs (top 14), body := .stmts (fdBody (top 14)), scope := fdScope (top 14), globals := 0, closure := [], defaults := .none, kwdefaults := .none } } (.node { cls := .type "code", data := .fields #[.str "PageWriter" 437, .str "PageWriter" 438, .str "/claim/cut.py" 439, .int 89 0, .int 0 0, .int 0 0, .int 0 0, .int 0 0, .ref 167, .bool false, .int 181 0, .ref 168, .none, .none, .none, .none, .int 440 0, .int 89 0, .str "/claim/cut.py" 441] } .nil
 .nil)
 (.node { cls := .type "function", data := .func { name := "special", qualname := "PageWriter.special", params := fdArgs (sub 18 8), body := .stmts (fdBody (sub 18 8)), scope := fdScope (sub 18 8), globals := 3, closure := [], defaults := .none, kwdefaults := .none, pyModule := .str "gluepage.dvi" 262, code := .ref 232 } } .nil
 .nil)))
 (.node { cls := .type "dict", data := .dict #[en P "__module__" 247 (.str "gluepage.errors" 194), en P "__qualname__" 249 (.str "TooDeep" 248), en P "__firstlineno__" 251 (.int 11 250), en P "__static_attributes__" 252 (.ref 62)] 4 } (.node { cls := .type "tuple", data := .seq #[.str "octets" 329, .str "number" 330, .str "room" 331, .str "place" 332] } (.node { cls := .type "getset_descriptor", data := .fields #[.str "__dict__" 420, .ref 152, .builtin "function.__dict__", .builtin "function.__dict__#set"] } .nil
 .nil)
 (.node { cls := .none, data := .func { name := "letter", qualname := "PageWriter.letter", params := fdArgs (sub 18 6), body := .stmts (fdBody (sub 18 6)), scope := fdScope (sub 18 6), globals := 0, closure := [], defaults := .none, kwdefaults := .none } } .nil
 .nil))
 (.node { cls := .type "frame", slots := #[some (.ref 120), some (.ref 3), some (.ref 117), none, some (.str "gluepage.dvi" 262), none, some (.ref 0)] } (.node { cls := .type "tuple", data := .seq #[] } .nil
 .nil)
 .nil))))
 (.node { cls := .type "code", data := .fields #[.str "<module>" 182, .str "<module>" 183, .str "/claim/cut.py" 184, .int 1 0, .int 0 0, .int 0 0, .int 0 0, .int 0 0, .ref 11, .bool false, .int 181 0, .ref 12, .none, .none, .none, .none, .int 185 0, .int 1 0, .str "/claim/cut.py" 186] } (.node { cls := .type "function", data := .func { name := "_wall", qualname := "_wall", params := fdArgs (top 0), body := .stmts (fdBody (top 0)), scope := fdScope (top 0), globals := 3, closure := [], defaults := .none, kwdefaults := .none, pyModule := .str "__main__" 164, code := .ref 20 } } (.node { cls := .type "tuple", data := .seq #[.str "reason" 217] } (.node { cls := .type "tuple", data := .seq #[] } (.node { cls := .none, data := .func { name := "prune", qualname := "Moves.prune", params := fdArgs (sub 16 1), body := .stmts (fdBody (sub 16 1)), scope := fdScope (sub 16 1), globals := 0, closure := [], defaults := .none, kwdefaults := .none } } .nil
 .nil)
 (.node { cls := .type "code", data := .fields #[.str "go_across" 473, .str "PageWriter.go_across" 474, .str "/claim/cut.py" 475, .int 118 0, .int 2 0, .int 0 0, .int 0 0, .int 3 0, .ref 192, .bool true, .int 181 0, .ref 193, .none, .ref 194, .ref 195, .ref 196, .int 478 0, .int 118 0, .str "/claim/cut.py" 479] } .nil
 .nil))
 (.node { cls := .type "tuple", data := .seq #[] } (.node { cls := .type "builtin_function_or_method", data := .fields #[.builtin "type.__prepare__", .type "type"] } .nil
 .nil)
 (.node { cls := .type "tuple", data := .seq #[.str "self" 523, .str "octets" 524, .str "h" 525, .str "v" 526] } .nil
 .nil)))
 (.node { cls := .type "super", data := .fields #[.ref 52, .ref 52, .ref 52] } (.node { cls := .type "tuple", data := .seq #[] } (.node { cls := .type "function", data := .func { name := "hit", qualname := "Moves.hit", params := fdArgs (sub 16 3), body := .stmts (fdBody (sub 16 3)), scope := fdScope (sub 16 3), globals := 3, closure := [], defaults := .none, kwdefaults := .none, pyModule := .str "gluepage.dvi" 262, code := .ref 148 } } .nil
 .nil)
 (.node { cls := .type "tuple", data := .seq #[] } .nil
 .nil))
 (.node { cls := .type "dict", data := .dict #[en P "__module__" 370 (.str "gluepage.dvi" 262), en P "__qualname__" 372 (.str "Moves" 371), en P "__firstlineno__" 374 (.int 39 373), en P "__init__" 382 (.ref 128), en P "prune" 390 (.ref 135), en P "move" 402 (.ref 142), en P "hit" 416 (.ref 149), en P "__static_attributes__" 419 (.ref 150)] 8 } (.node { cls := .type "tuple", data := .seq #[] } .nil
 .nil)
 .nil)))
 (.node { cls := .type "tuple", data := .seq #[.str "" 208] } (.node { cls := .type "dict", data := .dict #[en P "__module__" 231 (.str "gluepage.errors" 194), en P "__qualname__" 233 (.str "Overflow" 232), en P "__firstlineno__" 235 (.int 9 234), en P "__static_attributes__" 236 (.ref 50)] 4 } (.node { cls := .type "tuple", data := .seq #[] } (.node { cls := .type "code", data := .fields #[.str "move" 391, .str "Moves.move" 392, .str "/claim/cut.py" 393, .int 49 0, .int 3 0, .int 0 0, .int 0 0, .int 3 0, .ref 136, .bool true, .int 181 0, .ref 137, .none, .ref 138, .ref 139, .ref 140, .int 400 0, .int 49 0, .str "/claim/cut.py" 401] } .nil
 .nil)
 (.node { cls := .type "function", data := .func { name := "go_down", qualname := "PageWriter.go_down", params := fdArgs (sub 18 4), body := .stmts (fdBody (sub 18 4)), scope := fdScope (sub 18 4), globals := 3, closure := [], defaults := .none, kwdefaults := .none, pyModule := .str "gluepage.dvi" 262, code := .ref 204 } } .nil
 .nil))
 (.node { cls := .none, data := .fields #[] } (.node { cls := .type "tuple", data := .seq #[.str "self" 450, .str "fonts" 451, .str "depth" 452] } .nil
 .nil)
 (.node { cls := .type "getset_descriptor", data := .fields #[.str "__dict__" 540, .ref 236, .builtin "function.__dict__", .builtin "function.__dict__#set"] } .nil
 .nil)))
 (.node { cls := .type "frame", slots := #[some (.ref 60), some (.ref 3), some (.ref 57), none, some (.str "gluepage.errors" 194), none, some (.ref 0)] } (.node { cls := .type "function", data := .func { name := "put_number", qualname := "put_number", params := fdArgs (top 12), body := .stmts (fdBody (top 12)), scope := fdScope (top 12), globals := 3, closure := [], defaults := .none, kwdefaults := .none, pyModule := .str "gluepage.dvi" 262, code := .ref 92 } } (.node { cls := .type "tuple", data := .seq #[] } .nil
 .nil)
 (.node { cls := .none, data := .fields #[] } .nil
 .nil))
 (.node { cls := .type "tuple", data := .seq #[] } (.node { cls := .none, data := .func { name := "close", qualname := "PageWriter.close", params := fdArgs (sub 18 2), body := .stmts (fdBody (sub 18 2)), scope := fdScope (sub 18 2), globals := 0, closure := [], defaults := .none, kwdefaults := .none } } .nil
 .nil)
 .nil))))))
 (.node (boot_o_2 P) (.node (boot_o_4 P) (.node (boot_o_8 P) (.node { cls := .none, data := .fields #[] } (.node { cls := .type "tuple", data := .seq #[.str "self" 212, .str "reason" 213] } (.node { cls := .type "type", data := .cls { name := "TooDeep", bases := [.ref 39], mro := [.ref 64, .ref 39, .type "ValueError", .type "Exception", .type "BaseException", .type "object"], ns := 63, qualname := "TooDeep" }, slots := #[some (.ref 55), none, some (.str "TooDeep" 240), some (.str "TooDeep" 248), some (.builtin "ValueError.__new__"), some (.bool true)] } (.node { cls := .type "function", data := .func { name := "__init__", qualname := "Moves.__init__", params := fdArgs (sub 16 0), body := .stmts (fdBody (sub 16 0)), scope := fdScope (sub 16 0), globals := 3, closure := [], defaults := .none, kwdefaults := .none, pyModule := .str "gluepage.dvi" 262, code := .ref 127 } } .nil
 .nil)
 (.node { cls := .type "tuple", data := .seq #[] } .nil
 .nil))
 (.node { cls := .type "tuple", data := .seq #[.str "octets" 339, .str "first" 340, .str "size" 341, .str "room" 342] } (.node { cls := .type "tuple", data := .seq #[] } .nil
 .nil)
 (.node { cls := .none, data := .func { name := "rule", qualname := "PageWriter.rule", params := fdArgs (sub 18 7), body := .stmts (fdBody (sub 18 7)), scope := fdScope (sub 18 7), globals := 0, closure := [], defaults := .none, kwdefaults := .none } } .nil
 .nil)))
 (.node { cls := .type "code", data := .fields #[.str "Overflow" 226, .str "Overflow" 227, .str "/claim/cut.py" 228, .int 9 0, .int 0 0, .int 0 0, .int 0 0, .int 0 0, .ref 46, .bool false, .int 181 0, .ref 47, .none, .none, .none, .none, .int 229 0, .int 9 0, .str "/claim/cut.py" 230] } (.node { cls := .type "tuple_iterator", data := .fields #[.none, .int 6 0] } (.node { cls := .none, data := .fields #[] } .nil
 .nil)
 (.node { cls := .type "tuple", data := .seq #[.str "self" 492, .str "font" 493] } .nil
 .nil))
 (.node { cls := .none, data := .func { name := "check_place", qualname := "check_place", params := fdArgs (top 15), body := .stmts (fdBody (top 15)), scope := fdScope (top 15), globals := 0, closure := [], defaults := .none, kwdefaults := .none } } (.node { cls := .type "code", data := .fields #[.str "__init__" 447, .str "PageWriter.__init__" 448, .str "/claim/cut.py" 449, .int 91 0, .int 3 0, .int 0 0, .int 0 0, .int 3 0, .ref 171, .bool true, .int 181 0, .ref 172, .none, .ref 173, .ref 174, .ref 175, .int 453 0, .int 91 0, .str "/claim/cut.py" 454] } .nil
 .nil)
 (.node { cls := .type "builtin_function_or_method", data := .fields #[.builtin "object.__init_subclass__", .ref 236] } .nil
 .nil))))
 (.node { cls := .type "dict", data := .dict #[en P "__module__" 203 (.str "gluepage.errors" 194), en P "__qualname__" 205 (.str "PageError" 204), en P "__firstlineno__" 207 (.int 5 206), en P "__init__" 216 (.ref 36), en P "__static_attributes__" 218 (.ref 37)] 5 } (.node { cls := .type "getset_descriptor", data := .fields #[.str "__weakref__" 219, .ref 39, .builtin "ExceptionGroup.__weakref__", .none] } (.node { cls := .type "tuple_iterator", data := .fields #[.none, .int 9 0] } (.node { cls := .type "tuple", data := .seq #[] } .nil
 .nil)
 (.node { cls := .none, data := .fields #[] } .nil
 .nil))
 (.node { cls := .type "tuple", data := .seq #[] } (.node { cls := .none, data := .fields #[.int 91 0, .int 4 0, .ref 176, .int 102 0, .int 4 0, .ref 183, .int 109 0, .int 4 0, .ref 190, .int 118 0, .int 4 0, .ref 197, .int 124 0, .int 4 0, .ref 204, .int 130 0, .int 4 0, .ref 211, .int 133 0, .int 4 0, .ref 218, .int 136 0, .int 4 0, .ref 225, .int 139 0, .int 4 0, .ref 232] } .nil
 .nil)
 (.node { cls := .type "code", data := .fields #[.str "special" 520, .str "PageWriter.special" 521, .str "/claim/cut.py" 522, .int 139 0, .int 4 0, .int 0 0, .int 0 0, .int 3 0, .ref 227, .bool true, .int 181 0, .ref 228, .none, .ref 229, .ref 230, .ref 231, .int 527 0, .int 139 0, .str "/claim/cut.py" 528] } .nil
 .nil)))
 (.node { cls := .type "builtin_function_or_method", data := .fields #[.builtin "type.__prepare__", .type "type"] } (.node { cls := .none, data := .fields #[] } (.node { cls := .type "type", data := .cls { name := "Moves", bases := [.type "object"], mro := [.ref 152, .type "object"], ns := 151, qualname := "Moves" }, slots := #[none, none, some (.str "Moves" 363), some (.str "Moves" 371), some (.builtin "object.__new__"), some (.bool true)] } .nil
 .nil)
 (.node { cls := .type "tuple", data := .seq #[] } .nil
 .nil))
 (.node { cls := .type "code", data := .fields #[.str "Moves" 365, .str "Moves" 366, .str "/claim/cut.py" 367, .int 39 0, .int 0 0, .int 0 0, .int 0 0, .int 0 0, .ref 118, .bool false, .int 181 0, .ref 119, .none, .none, .none, .none, .int 368 0, .int 39 0, .str "/claim/cut.py" 369] } (.node { cls := .type "function", data := .func { name := "open", qualname := "PageWriter.open", params := fdArgs (sub 18 1), body := .stmts (fdBody (sub 18 1)), scope := fdScope (sub 18 1), globals := 3, closure := [], defaults := .none, kwdefaults := .none, pyModule := .str "gluepage.dvi" 262, code := .ref 183 } } .nil
 .nil)
 .nil))))
 (.node { cls := .none, data := .fields #[.int 1 0, .int 0 0, .ref 20, .int 5 0, .int 0 0, .ref 27, .int 9 0, .int 0 0, .ref 48, .int 11 0, .int 0 0, .ref 60, .int 20 0, .int 0 0, .ref 92, .int 23 0, .int 0 0, .ref 99, .int 29 0, .int 0 0, .ref 106, .int 35 0, .int 0 0, .ref 113, .int 39 0, .int 0 0, .ref 120, .int 85 0, .int 0 0, .ref 162, .int 89 0, .int 0 0, .ref 169] } (.node { cls := .type "code", data := .fields #[.str "_wall" 187, .str "_wall" 188, .str "/claim/cut.py" 189, .int 1 0, .int 1 0, .int 0 0, .int 0 0, .int 3 0, .ref 15, .bool true, .int 181 0, .ref 16, .none, .ref 17, .ref 18, .ref 19, .int 191 0, .int 1 0, .str "/claim/cut.py" 192] } (.node { cls := .type "function", data := .func { name := "__init__", qualname := "PageError.__init__", params := fdArgs (sub 2 0), body := .stmts (fdBody (sub 2 0)), scope := fdScope (sub 2 0), globals := 3, closure := [], defaults := .ref 29, kwdefaults := .none, pyModule := .str "gluepage.errors" 194, code := .ref 35 } } (.node { cls := .type "tuple_iterator", data := .fields #[.none, .int 9 0] } (.node { cls := .type "tuple", data := .seq #[] } .nil
 .nil)
 (.node { cls := .none, data := .func { name := "go_across", qualname := "PageWriter.go_across", params := fdArgs (sub 18 3), body := .stmts (fdBody (sub 18 3)), scope := fdScope (sub 18 3), globals := 0, closure := [], defaults := .none, kwdefaults := .none } } .nil
 .nil))
 (.node { cls := .type "function", data := .func { name := "put_signed", qualname := "put_signed", params := fdArgs (top 13), body := .stmts (fdBody (top 13)), scope := fdScope (top 13), globals := 3, closure := [], defaults := .none, kwdefaults := .none, pyModule := .str "gluepage.dvi" 262, code := .ref 99 } } (.node { cls := .type "tuple", data := .seq #[] } .nil
 .nil)
 (.node { cls := .none, data := .fields #[] } .nil
 .nil)))
 (.node { cls := .type "type", data := .cls { name := "Overflow", bases := [.ref 39], mro := [.ref 52, .ref 39, .type "ValueError", .type "Exception", .type "BaseException", .type "object"], ns := 51, qualname := "Overflow" }, slots := #[some (.ref 43), none, some (.str "Overflow" 224), some (.str "Overflow" 232), some (.builtin "ValueError.__new__"), some (.bool true)] } (.node { cls := .type "tuple_iterator", data := .fields #[.none, .int 3 0] } (.node { cls := .type "code", data := .fields #[.str "hit" 403, .str "Moves.hit" 404, .str "/claim/cut.py" 405, .int 61 0, .int 3 0, .int 0 0, .int 0 0, .int 3 0, .ref 143, .bool true, .int 181 0, .ref 144, .none, .ref 145, .ref 146, .ref 147, .int 414 0, .int 61 0, .str "/claim/cut.py" 415] } .nil
 .nil)
 (.node { cls := .type "function", data := .func { name := "choose", qualname := "PageWriter.choose", params := fdArgs (sub 18 5), body := .stmts (fdBody (sub 18 5)), scope := fdScope (sub 18 5), globals := 3, closure := [], defaults := .none, kwdefaults := .none, pyModule := .str "gluepage.dvi" 262, code := .ref 211 } } .nil
 .nil))
 (.node { cls := .type "builtin_function_or_method", data := .fields #[.builtin "type.__prepare__", .type "type"] } (.node { cls := .type "tuple", data := .seq #[.str "self" 459, .str "depth" 460] } .nil
 .nil)
 .nil)))
 (.node { cls := .type "frame", slots := #[some (.ref 27), some (.ref 3), some (.ref 24), none, some (.str "gluepage.errors" 194), none, some (.ref 0)] } (.node { cls := .type "builtin_function_or_method", data := .fields #[.builtin "type.__prepare__", .type "type"] } (.node { cls := .type "tuple_iterator", data := .fields #[.none, .int 4 0] } (.node { cls := .none, data := .func { name := "move", qualname := "Moves.move", params := fdArgs (sub 16 2), body := .stmts (fdBody (sub 16 2)), scope := fdScope (sub 16 2), globals := 0, closure := [], defaults := .none, kwdefaults := .none } } .nil
 .nil)
 (.node { cls := .type "code", data := .fields #[.str "go_down" 481, .str "PageWriter.go_down" 482, .str "/claim/cut.py" 483, .int 124 0, .int 2 0, .int 0 0, .int 0 0, .int 3 0, .ref 199, .bool true, .int 181 0, .ref 200, .none, .ref 201, .ref 202, .ref 203, .int 486 0, .int 124 0, .str "/claim/cut.py" 487] } .nil
 .nil))
 (.node { cls := .type "tuple", data := .seq #[] } (.node { cls := .none, data := .fields #[] } .nil
 .nil)
 (.node { cls := .type "type", data := .cls { name := "PageWriter", bases := [.type "object"], mro := [.ref 236, .type "object"], ns := 235, qualname := "PageWriter" }, slots := #[none, none, some (.str "PageWriter" 435), some (.str "PageWriter" 443), some (.builtin "object.__new__"), some (.bool true)] } .nil
 .nil)))
 (.node { cls := .type "code", data := .fields #[.str "TooDeep" 242, .str "TooDeep" 243, .str "/claim/cut.py" 244, .int 11 0, .int 0 0, .int 0 0, .int 0 0, .int 0 0, .ref 58, .bool false, .int 181 0, .ref 59, .none, .none, .none, .none, .int 245 0, .int 11 0, .str "/claim/cut.py" 246] } (.node { cls := .type "code", data := .fields #[.str "put_number" 326, .str "put_number" 327, .str "/claim/cut.py" 328, .int 20 0, .int 3 0, .int 0 0, .int 0 0, .int 3 0, .ref 87, .bool true, .int 181 0, .ref 88, .none, .ref 89, .ref 90, .ref 91, .int 333 0, .int 20 0, .str "/claim/cut.py" 334] } (.node { cls := .type "builtin_function_or_method", data := .fields #[.builtin "object.__init_subclass__", .ref 152] } .nil
 .nil)
 (.node { cls := .type "tuple", data := .seq #[] } .nil
 .nil))
 (.node { cls := .type "tuple", data := .seq #[.str "self" 378, .str "plain" 379] } (.node { cls := .type "tuple", data := .seq #[] } .nil
 .nil)
 .nil)))))
 (.node (boot_o_6 P) (.node (boot_o_10 P) (.node { cls := .type "tuple", data := .seq #[] } (.node { cls := .none, data := .func { name := "__init__", qualname := "PageError.__init__", params := fdArgs (sub 2 0), body := .stmts (fdBody (sub 2 0)), scope := fdScope (sub 2 0), globals := 0, closure := [], defaults := .none, kwdefaults := .none } } (.node { cls := .type "builtin_function_or_method", data := .fields #[.builtin "object.__init_subclass__", .ref 64] } (.node { cls := .none, data := .fields #[] } .nil
 .nil)
 (.node { cls := .type "tuple", data := .seq #[.str "self" 476, .str "h" 477] } .nil
 .nil))
 (.node { cls := .none, data := .func { name := "put_signed", qualname := "put_signed", params := fdArgs (top 13), body := .stmts (fdBody (top 13)), scope := fdScope (top 13), globals := 0, closure := [], defaults := .none, kwdefaults := .none } } (.node { cls := .type "code", data := .fields #[.str "barred" 427, .str "barred" 428, .str "/claim/cut.py" 429, .int 85 0, .int 2 0, .int 0 0, .int 0 0, .int 3 0, .ref 157, .bool true, .int 181 0, .ref 158, .none, .ref 159, .ref 160, .ref 161, .int 432 0, .int 85 0, .str "/claim/cut.py" 433] } .nil
 .nil)
 (.node { cls := .type "function", data := .func { name := "rule", qualname := "PageWriter.rule", params := fdArgs (sub 18 7), body := .stmts (fdBody (sub 18 7)), scope := fdScope (sub 18 7), globals := 3, closure := [], defaults := .none, kwdefaults := .none, pyModule := .str "gluepage.dvi" 262, code := .ref 225 } } .nil
 .nil)))
 (.node { cls := .type "tuple", data := .seq #[] } (.node { cls := .type "StopIteration", data := .fields #[.ref 81, .none, .none, .none, .bool false, .none] } (.node { cls := .type "tuple", data := .seq #[] } .nil
 .nil)
 (.node { cls := .none, data := .func { name := "choose", qualname := "PageWriter.choose", params := fdArgs (sub 18 5), body := .stmts (fdBody (sub 18 5)), scope := fdScope (sub 18 5), globals := 0, closure := [], defaults := .none, kwdefaults := .none } } .nil
 .nil))
 (.node { cls := .type "function", data := .func { name := "check_place", qualname := "check_place", params := fdArgs (top 15), body := .stmts (fdBody (top 15)), scope := fdScope (top 15), globals := 3, closure := [], defaults := .none, kwdefaults := .none, pyModule := .str "gluepage.dvi" 262, code := .ref 113 } } (.node { cls := .type "tuple", data := .seq #[] } .nil
 .nil)
 .nil)))
 (.node { cls := .none, data := .fields #[.int 7 0, .int 4 0, .ref 35] } (.node { cls := .type "builtin_function_or_method", data := .fields #[.builtin "object.__init_subclass__", .ref 39] } (.node { cls := .type "StopIteration", data := .fields #[.ref 73, .none, .none, .none, .bool false, .none] } (.node { cls := .type "tuple", data := .seq #[.str "self" 394, .str "octets" 395, .str "size" 396, .str "hit" 397, .str "state" 398, .str "row" 399] } .nil
 .nil)
 (.node { cls := .type "tuple", data := .seq #[] } .nil
 .nil))
 (.node { cls := .type "code", data := .fields #[.str "put_counted" 346, .str "put_counted" 347, .str "/claim/cut.py" 348, .int 29 0, .int 3 0, .int 0 0, .int 0 0, .int 3 0, .ref 101, .bool true, .int 181 0, .ref 102, .none, .ref 103, .ref 104, .ref 105, .int 353 0, .int 29 0, .str "/claim/cut.py" 354] } (.node { cls := .type "frame", slots := #[some (.ref 169), some (.ref 3), some (.ref 166), none, some (.str "gluepage.dvi" 262), none, some (.ref 0)] } .nil
 .nil)
 (.node { cls := .type "tuple", data := .seq #[.str "across" 530, .str "deepest" 531, .str "depth" 532, .str "down" 533, .str "font" 534, .str "fonts" 535, .str "h" 536, .str "octets" 537, .str "v" 538] } .nil
 .nil)))
 (.node { cls := .type "tuple", data := .seq #[] } (.node { cls := .type "tuple", data := .seq #[] } (.node { cls := .type "getset_descriptor", data := .fields #[.str "__weakref__" 422, .ref 152, .builtin "ExceptionGroup.__weakref__", .none] } .nil
 .nil)
 (.node { cls := .type "code", data := .fields #[.str "letter" 497, .str "PageWriter.letter" 498, .str "/claim/cut.py" 499, .int 133 0, .int 5 0, .int 0 0, .int 0 0, .int 3 0, .ref 213, .bool true, .int 181 0, .ref 214, .none, .ref 215, .ref 216, .ref 217, .int 505 0, .int 133 0, .str "/claim/cut.py" 506] } .nil
 .nil))
 (.node { cls := .type "tuple", data := .seq #[] } (.node { cls := .none, data := .fields #[] } .nil
 .nil)
 .nil))))
 (.node { cls := .type "frame", slots := #[some (.ref 13), some (.ref 3), some (.ref 3), none, some (.str "__main__" 164), none, some (.ref 0)] } (.node { cls := .type "tuple", data := .seq #[.type "ValueError"] } (.node { cls := .type "dict", data := .dict #[en P "__module__" 203 (.str "gluepage.errors" 194), en P "__firstlineno__" 207 (.int 5 206), en P "__init__" 216 (.ref 36), en P "__static_attributes__" 218 (.ref 37), en P "__weakref__" 220 (.ref 40), en P "__doc__" 221 (.none)] 3 } (.node { cls := .type "StopIteration", data := .fields #[.ref 69, .none, .none, .none, .bool false, .none] } (.node { cls := .type "code", data := .fields #[.str "prune" 383, .str "Moves.prune" 384, .str "/claim/cut.py" 385, .int 45 0, .int 2 0, .int 0 0, .int 0 0, .int 3 0, .ref 129, .bool true, .int 181 0, .ref 130, .none, .ref 131, .ref 132, .ref 133, .int 388 0, .int 45 0, .str "/claim/cut.py" 389] } .nil
 .nil)
 (.node { cls := .type "function", data := .func { name := "go_across", qualname := "PageWriter.go_across", params := fdArgs (sub 18 3), body := .stmts (fdBody (sub 18 3)), scope := fdScope (sub 18 3), globals := 3, closure := [], defaults := .none, kwdefaults := .none, pyModule := .str "gluepage.dvi" 262, code := .ref 197 } } .nil
 .nil))
 (.node { cls := .none, data := .fields #[] } (.node { cls := .type "dict", data := .dict #[en P "__module__" 442 (.str "gluepage.dvi" 262), en P "__qualname__" 444 (.str "PageWriter" 443), en P "__firstlineno__" 446 (.int 89 445), en P "__init__" 455 (.ref 177), en P "open" 463 (.ref 184), en P "close" 472 (.ref 191), en P "go_across" 480 (.ref 198), en P "go_down" 488 (.ref 205), en P "choose" 496 (.ref 212), en P "letter" 507 (.ref 219), en P "rule" 519 (.ref 226), en P "special" 529 (.ref 233), en P "__static_attributes__" 539 (.ref 234)] 13 } .nil
 .nil)
 (.node { cls := .type "tuple", data := .seq #[] } .nil
 .nil)))
 (.node { cls := .type "builtin_function_or_method", data := .fields #[.builtin "object.__init_subclass__", .ref 52] } (.node { cls := .type "StopIteration", data := .fields #[.ref 85, .none, .none, .none, .bool false, .none] } (.node { cls := .type "tuple", data := .seq #[.str "plain" 417, .str "rows" 418] } .nil
 .nil)
 (.node { cls := .none, data := .fields #[] } .nil
 .nil))
 (.node { cls := .type "tuple", data := .seq #[] } (.node { cls := .none, data := .func { name := "open", qualname := "PageWriter.open", params := fdArgs (sub 18 1), body := .stmts (fdBody (sub 18 1)), scope := fdScope (sub 18 1), globals := 0, closure := [], defaults := .none, kwdefaults := .none } } .nil
 .nil)
 .nil)))
 (.node { cls := .type "tuple", data := .seq #[] } (.node { cls := .type "tuple", data := .seq #[] } (.node { cls := .type "StopIteration", data := .fields #[.ref 77, .none, .none, .none, .bool false, .none] } (.node { cls := .type "function", data := .func { name := "move", qualname := "Moves.move", params := fdArgs (sub 16 2), body := .stmts (fdBody (sub 16 2)), scope := fdScope (sub 16 2), globals := 3, closure := [], defaults := .none, kwdefaults := .none, pyModule := .str "gluepage.dvi" 262, code := .ref 141 } } .nil
 .nil)
 (.node { cls := .type "tuple", data := .seq #[] } .nil
 .nil))
 (.node { cls := .type "tuple", data := .seq #[.str "place" 359] } (.node { cls := .type "tuple", data := .seq #[] } .nil
 .nil)
 (.node { cls := .type "getset_descriptor", data := .fields #[.str "__weakref__" 542, .ref 236, .builtin "ExceptionGroup.__weakref__", .none] } .nil
 .nil)))
 (.node { cls := .type "tuple", data := .seq #[] } (.node { cls := .type "tuple", data := .seq #[] } (.node { cls := .none, data := .fields #[] } .nil
 .nil)
 (.node { cls := .type "tuple", data := .seq #[.str "self" 511, .str "height" 512, .str "width" 513, .str "h" 514, .str "v" 515, .str "moves" 516] } .nil
 .nil))
 (.node { cls := .none, data := .func { name := "__init__", qualname := "Moves.__init__", params := fdArgs (sub 16 0), body := .stmts (fdBody (sub 16 0)), scope := fdScope (sub 16 0), globals := 0, closure := [], defaults := .none, kwdefaults := .none } } (.node { cls := .type "code", data := .fields #[.str "close" 464, .str "PageWriter.close" 465, .str "/claim/cut.py" 466, .int 109 0, .int 3 0, .int 0 0, .int 0 0, .int 3 0, .ref 185, .bool true, .int 181 0, .ref 186, .none, .ref 187, .ref 188, .ref 189, .int 470 0, .int 109 0, .str "/claim/cut.py" 471] } .nil
 .nil)
 .nil)))))))
noncomputable def sD (w : World) (os : OsState) : SharedT := ⟨treeD w.params, 241, {}, Array.mk [], {}, 547, os⟩
noncomputable abbrev posD : Pos := ⟨89, 0, 143, 34⟩
end
section
set_option maxRecDepth 100000
set_option autoImplicit false
open PySem.Challenge (rw_sq0033_01 pw_sq0033_01)
/-! the looks at the row -/
theorem said_looks : looksOpen rw_sq0033_01.row.toRowW.prog = true := by
  unfold looksOpen
  repeat' with_reducible refine look_both ?_ ?_
  all_goals kernel_rfl
theorem said_row : OpenRow.wellSaid rw_sq0033_01.row = true := by
  unfold OpenRow.wellSaid OpenRow.partSaid
  repeat' with_reducible refine look_both ?_ ?_
  · exact said_looks
  all_goals kernel_rfl
theorem said_law : OpenLaw.wellSaid rw_sq0033_01 = true := by
  unfold OpenLaw.wellSaid
  repeat' with_reducible refine look_both ?_ ?_
  · exact said_row
  all_goals kernel_rfl
/-! the run of the top -/
theorem boot_size (w : World) : ((boot_heap w.params).isNs mainGlobals && (Array.mk [] : Array GenState).size == 0, (boot_heap w.params).objs.size, (boot_heap w.params).nsMap mainGlobals "__annotations__") = (true, 11, some (.ref 6)) := by kernel_rfl
theorem run_A (w : World) (os : OsState) : topGo treeTable myProg w 11 (some (.ref 6)) 12 ⟨boot_heap w.params, Array.mk [], boot_drawn, boot_toks, os⟩ (topStub myProg) = some ((sA w os).abs, ⟨denote treeTable myCode, myCode, posA, [topFrame ⟨0, 0, 0, 0⟩]⟩) := by kernel_rfl
theorem run_block (w : World) (os : OsState) : segRunT treeTable myProg w 11 (some (.ref 6)) 1 1 (sA w os) (blockOf myBody myEnv myCode posA [topFrame ⟨0, 0, 0, 0⟩]) = some (.next, sA w os, myCode, posA) := by kernel_rfl
theorem run_B (w : World) (os : OsState) : segRunT treeTable myProg w 11 (some (.ref 6)) 1 715 (sA w os) (piecesOf (myBody.take 7) myEnv myCode posA [topFrame ⟨0, 0, 0, 0⟩]) = some (.next, sB w os, myCode, posB) := by kernel_rfl
theorem run_CF (w : World) (os : OsState) : segRunT treeTable myProg (w.withFollow "special-get-raises" false) 11 (some (.ref 6)) 1 704 (sB (w.withFollow "special-get-raises" false) os) (piecesOf ((myBody.drop 7).take 5) myEnv myCode posB [topFrame ⟨0, 0, 0, 0⟩]) = some (.next, sC (w.withFollow "special-get-raises" false) os, myCode, posC) := by kernel_rfl
theorem run_CT (w : World) (os : OsState) : segRunT treeTable myProg (w.withFollow "special-get-raises" true) 11 (some (.ref 6)) 1 704 (sB (w.withFollow "special-get-raises" true) os) (piecesOf ((myBody.drop 7).take 5) myEnv myCode posB [topFrame ⟨0, 0, 0, 0⟩]) = some (.next, sC (w.withFollow "special-get-raises" true) os, myCode, posC) := by kernel_rfl
theorem run_D (w : World) (os : OsState) : segRunT treeTable myProg w 11 (some (.ref 6)) 1 982 (sC w os) (piecesOf (((myBody.drop 7).drop 5).take 7) myEnv myCode posC [topFrame ⟨0, 0, 0, 0⟩]) = some (.next, sD w os, myCode, posD) := by kernel_rfl
noncomputable def seenT (s : SharedT) (w : World) := ((staticsOk (importedModules myProg.main.body) (boot_heap w.params) s.abs.heap && namesBound myProg s.abs.heap && gensDone s.abs && laidKept (boot_heap w.params) s.abs.heap), openSeen myView myLoose (importedModules myProg.main.body) myXt true s.abs, Hook.obs (myHook myAs) s.abs)
theorem run_E (w : World) (os : OsState) : Option.map (fun x => (x.1, seenT x.2.1 w, x.2.2)) (segRunT treeTable myProg w 11 (some (.ref 6)) 1 400 (sD w os) (piecesOf (((myBody.drop 7).drop 5).drop 7) myEnv myCode posD [topFrame ⟨0, 0, 0, 0⟩])) = some (.next, (true, openGood myView myLoose, Hook.val (myHook myAs) w), myCode, ⟨226, 0, 238, 15⟩) := by kernel_rfl
theorem run_out (w : World) (s : SharedT) : topRun treeTable myProg w 11 (some (.ref 6)) 3 s.abs (restOf [] myEnv myCode ⟨226, 0, 238, 15⟩ [topFrame ⟨0, 0, 0, 0⟩]) = some s.abs := by kernel_rfl
end
section
set_option genSizeOf false
set_option genSizeOfSpec false
set_option maxRecDepth 100000
/-! abstract values, objects, heaps -/
inductive AV where
  | none
  | bool (b : Bool)
  | int (i : Int)
  | bytes (b : List UInt8)
  | ref (a : Addr)
inductive AObj where
  | list (vs : List AV)
  | tup (vs : List AV)
  | inst (C dx : Addr)
  | attrs (fs : List (Str × AV))
  | edict
  | cell (v : AV)
noncomputable abbrev AHeap := Addr → Option AObj
noncomputable def upd (H : AHeap) (a : Addr) (o : AObj) : AHeap := fun b => if b = a then some o else H b
theorem upd_self (H : AHeap) (a : Addr) (o : AObj) : upd H a o a = some o := if_pos rfl
theorem upd_ne (H : AHeap) {a b : Addr} (o : AObj) (h : b ≠ a) : upd H a o b = H b := if_neg h

inductive VRep : Value → AV → Prop
  | none : VRep .none .none
  | bool (b) : VRep (.bool b) (.bool b)
  | int (i t) : VRep (.int i t) (.int i)
  | bytes (b : Array UInt8) (t) : VRep (.bytes b t) (.bytes b.toList)
  | ref (a) : VRep (.ref a) (.ref a)
inductive VReps : List Value → List AV → Prop
  | nil : VReps [] []
  | cons {v av vs avs} : VRep v av → VReps vs avs → VReps (v :: vs) (av :: avs)
theorem VReps.length {vs : List Value} {avs : List AV} (h : VReps vs avs) : vs.length = avs.length := by
  induction h with
  | nil => rfl
  | cons _ _ ih => simp [ih]
theorem VReps.append {vs ws : List Value} {avs aws : List AV} (h : VReps vs avs) (k : VReps ws aws) : VReps (vs ++ ws) (avs ++ aws) := by
  induction h with
  | nil => exact k
  | cons v _ ih => exact .cons v ih
theorem VReps.get {vs : List Value} {avs : List AV} (h : VReps vs avs) : ∀ {i : Nat} {av : AV}, avs[i]? = some av → ∃ v, vs[i]? = some v ∧ VRep v av := by
  induction h with
  | nil => intro i av e; simp at e
  | cons v _ ih =>
    intro i av e
    cases i with
    | zero => simp at e; exact ⟨_, by simp, e ▸ v⟩
    | succ i => simp at e; obtain ⟨w, e', r⟩ := ih e; exact ⟨w, by simpa using e', r⟩
theorem VReps.get' {vs : List Value} {avs : List AV} (h : VReps vs avs) : ∀ {i : Nat} {v : Value}, vs[i]? = some v → ∃ av, avs[i]? = some av ∧ VRep v av := by
  induction h with
  | nil => intro i av e; simp at e
  | cons v _ ih =>
    intro i av e
    cases i with
    | zero => simp at e; exact ⟨_, by simp, e ▸ v⟩
    | succ i => simp at e; obtain ⟨w, e', r⟩ := ih e; exact ⟨w, by simpa using e', r⟩
theorem VReps.set {vs : List Value} {avs : List AV} (h : VReps vs avs) {v : Value} {av : AV} (hv : VRep v av) : ∀ (i : Nat), VReps (vs.set i v) (avs.set i av) := by
  induction h with
  | nil => intro i; exact .nil
  | cons v' r ih =>
    intro i
    cases i with
    | zero => exact .cons hv r
    | succ i => exact .cons v' (ih i)
theorem VReps.take {vs : List Value} {avs : List AV} (h : VReps vs avs) : ∀ (i : Nat), VReps (vs.take i) (avs.take i) := by
  induction h with
  | nil => intro i; simp; exact .nil
  | cons v' r ih => intro i; cases i with
    | zero => exact .nil
    | succ i => exact .cons v' (ih i)
theorem VReps.drop {vs : List Value} {avs : List AV} (h : VReps vs avs) : ∀ (i : Nat), VReps (vs.drop i) (avs.drop i) := by
  induction h with
  | nil => intro i; simp; exact .nil
  | cons v' r ih => intro i; cases i with
    | zero => exact .cons v' r
    | succ i => exact ih i
theorem VReps.of_append {avs aws : List AV} : ∀ {vs : List Value}, VReps vs (avs ++ aws) → ∃ xs ys, vs = xs ++ ys ∧ VReps xs avs ∧ VReps ys aws := by
  induction avs with
  | nil => intro vs h; exact ⟨[], vs, rfl, .nil, h⟩
  | cons a r ih =>
    intro vs h
    cases h with
    | cons hv h => obtain ⟨xs, ys, rfl, h1, h2⟩ := ih h; exact ⟨_ :: xs, ys, rfl, .cons hv h1, h2⟩
theorem VReps.snoc {avs : List AV} {av : AV} {vs : List Value} (h : VReps vs (avs ++ [av])) : ∃ xs y, vs = xs ++ [y] ∧ VReps xs avs ∧ VRep y av := by
  obtain ⟨xs, ys, rfl, h1, h2⟩ := h.of_append
  cases h2 with
  | cons hv h => cases h; exact ⟨xs, _, rfl, h1, hv⟩

inductive ARep : List DictEntry → List (Str × AV) → Prop
  | nil : ARep [] []
  | cons {hs : Int} {n : Str} {t : Tok} {v : Value} {av : AV} {es fs} : VRep v av → ARep es fs → ARep (⟨hs, .str n t, v⟩ :: es) ((n, av) :: fs)
noncomputable def getA (n : Str) : List (Str × AV) → Option AV
  | [] => none
  | (m, v) :: r => if m = n then some v else getA n r
noncomputable def putA (n : Str) (v : AV) : List (Str × AV) → List (Str × AV)
  | [] => [(n, v)]
  | (m, w) :: r => if m = n then (m, v) :: r else (m, w) :: putA n v r
theorem ARep.length {es : List DictEntry} {fs : List (Str × AV)} (h : ARep es fs) : es.length = fs.length := by
  induction h with
  | nil => rfl
  | cons _ _ ih => simp [ih]
theorem isStr_str (a n : Str) (t : Tok) : (Value.str a t).isStr n = decide (a = n) := by
  show (a == n) = _
  by_cases h : a = n
  · subst h; simp
  · simp [h]
theorem ARep.getL_some {es : List DictEntry} {fs : List (Str × AV)} (h : ARep es fs) {n : Str} {av : AV} (e : getA n fs = some av) : ∃ v, getL n es = some (some v) ∧ VRep v av := by
  induction h with
  | nil => cases e
  | @cons hs m t v av' es fs hv _ ih =>
    unfold getA at e
    by_cases q : m = n
    · rw [if_pos q] at e; cases e
      refine ⟨v, ?_, hv⟩
      unfold getL
      rw [List.find?_cons_of_pos (by simp [isStr_str, q])]
    · rw [if_neg q] at e
      obtain ⟨w, e1, e2⟩ := ih e
      refine ⟨w, ?_, e2⟩
      unfold getL at e1 ⊢
      rw [List.find?_cons_of_neg (by simp [isStr_str, q])]
      cases hf : List.find? (fun x => x.key.isStr n) es with
      | some x => rw [hf] at e1; exact e1
      | none =>
        rw [hf] at e1
        dsimp only at e1
        split at e1 <;> cases e1
theorem ARep.noRef {es : List DictEntry} {fs : List (Str × AV)} (h : ARep es fs) : es.any (·.refKey) = false := by
  induction h with
  | nil => rfl
  | @cons hs m t v av' es fs hv _ ih => rw [List.any_cons, ih]; rfl
theorem ARep.getL_none {es : List DictEntry} {fs : List (Str × AV)} (h : ARep es fs) {n : Str} (e : getA n fs = none) : getL n es = some none := by
  have key : List.find? (fun x : DictEntry => x.key.isStr n) es = none := by
    induction h with
    | nil => rfl
    | @cons hs m t v av' es fs hv _ ih =>
      unfold getA at e
      by_cases q : m = n
      · rw [if_pos q] at e; cases e
      · rw [if_neg q] at e
        rw [List.find?_cons_of_neg (by simp [isStr_str, q])]; exact ih e
  unfold getL
  rw [key]; simp [h.noRef]
theorem ARep.getL_ok {es : List DictEntry} {fs : List (Str × AV)} (h : ARep es fs) (n : Str) : (getL n es).isSome = true := by
  cases e : getA n fs with
  | some av => obtain ⟨v, q, _⟩ := h.getL_some e; rw [q]; rfl
  | none => rw [h.getL_none e]; rfl
theorem ARep.put {es : List DictEntry} {fs : List (Str × AV)} (h : ARep es fs) {n : Str} {hs : Int} {t : Tok} {v : Value} {av : AV} (hv : VRep v av) : ARep (putL n hs (.str n t) v es) (putA n av fs) := by
  induction h with
  | nil => exact .cons hv .nil
  | @cons hs' m t' v' av' es fs hv' hr ih =>
    unfold putL putA
    by_cases q : m = n
    · rw [if_pos q, if_pos (by simp [isStr_str, q])]; exact .cons hv hr
    · rw [if_neg q, if_neg (by simp [isStr_str, q])]; exact .cons hv' ih

noncomputable abbrev tupOf (its : Array Value) (n : Nat) : Obj := { cls := .type "tuple", data := .seq its n }
inductive ORep : Obj → AObj → Prop
  | list {its : List Value} {n : Nat} {vs : List AV} : VReps its vs → ORep (listOf its.toArray n) (.list vs)
  | tup {its : List Value} {n : Nat} {vs : List AV} : VReps its vs → ORep (tupOf its.toArray n) (.tup vs)
  | inst (C dx : Addr) : ORep (instObj C dx) (.inst C dx)
  | attrs {es : List DictEntry} {n : Nat} {fs : List (Str × AV)} : ARep es fs → ORep (dictOf es n) (.attrs fs)
  | edict {n : Nat} : ORep (dictOf [] n) .edict
  | cell {o : Obj} {v : Value} {av : AV} : o.data = .cell (some v) → o.isFreed = false → VRep v av → ORep o (.cell av)
theorem ORep.live {o : Obj} {ao : AObj} (h : ORep o ao) : o.isFreed = false := by cases h <;> first | rfl | assumption

/-! the ledger bears the abstract heap; ex: what else stands and is not touched -/
noncomputable def RepN (h₀ : Heap) (L : Addr) (h : Heap) (ex : List (Addr × Obj)) (H : AHeap) : Prop :=
  ∃ news, News h₀ L h news ∧ (news.map (·.1)).Nodup ∧ (∀ a o, H a = some o → ∃ co, (a, co) ∈ news ∧ ORep co o) ∧ ∀ p ∈ ex, p ∈ news ∧ H p.1 = none

section
variable {h₀ h h' : Heap} {L : Addr} {ex : List (Addr × Obj)} {H : AHeap} {m : Str → Option Value}
theorem RepN.get (R : RepN h₀ L h ex H) {a : Addr} {o : AObj} (e : H a = some o) : ∃ co, h.get? a = some co ∧ ORep co o := by
  obtain ⟨news, N, _, hH, _⟩ := R
  obtain ⟨co, hm, hr⟩ := hH a o e
  exact ⟨co, (N _ hm).1, hr⟩
theorem split_at {news : List (Addr × Obj)} {a : Addr} {co : Obj} (hd : (news.map (·.1)).Nodup) (hm : (a, co) ∈ news) : ∃ pre post, news = pre ++ (a, co) :: post ∧ (∀ p ∈ pre, p.1 ≠ a) ∧ ∀ p ∈ post, p.1 ≠ a := by
  obtain ⟨pre, post, rfl⟩ := List.append_of_mem hm
  refine ⟨pre, post, rfl, ?_, ?_⟩
  · intro p hp e
    rw [List.map_append, List.nodup_append] at hd
    exact hd.2.2 p.1 (List.mem_map_of_mem hp) a (by simp) e
  · intro p hp e
    rw [List.map_append, List.nodup_append, List.map_cons, List.nodup_cons] at hd
    have z := List.mem_map_of_mem (f := (·.1)) hp
    rw [e] at z
    exact hd.2.1.1 z
theorem upd_of_split {pre post : List (Addr × Obj)} {a : Addr} {co co' : Obj} (h1 : ∀ p ∈ pre, p.1 ≠ a) (h2 : ∀ p ∈ post, p.1 ≠ a) : Upd a co co' (pre ++ (a, co) :: post) (pre ++ (a, co') :: post) := by
  induction pre with
  | nil => exact .head h2
  | cons p r ih => exact .tail (h1 p (.head _)) (ih fun q hq => h1 q (.tail _ hq))
/-- one object changed -/
theorem RepN.split (R : RepN h₀ L h ex H) {a : Addr} {o : AObj} (e : H a = some o) : ∃ co pre post, ORep co o ∧ News h₀ L h (pre ++ (a, co) :: post) ∧ (∀ p ∈ pre, p.1 ≠ a) ∧ (∀ p ∈ post, p.1 ≠ a) ∧ (∀ b ob, H b = some ob → ∃ cb, (b, cb) ∈ pre ++ (a, co) :: post ∧ ORep cb ob) ∧
    ∀ co' o' h', ORep co' o' → News h₀ L h' (pre ++ (a, co') :: post) → RepN h₀ L h' ex (upd H a o') := by
  obtain ⟨news, N, hd, hH, hx⟩ := R
  obtain ⟨co, hm, hr⟩ := hH a o e
  obtain ⟨pre, post, rfl, h1, h2⟩ := split_at hd hm
  refine ⟨co, pre, post, hr, N, h1, h2, hH, fun co' o' h' hr' N' => ⟨_, N', by simpa using hd, fun b ob hb => ?_, fun p hp => ?_⟩⟩
  · by_cases q : b = a
    · subst q; rw [upd_self] at hb; cases hb; exact ⟨co', by simp, hr'⟩
    · rw [upd_ne _ _ q] at hb
      obtain ⟨cb, hmb, hrb⟩ := hH b ob hb
      refine ⟨cb, ?_, hrb⟩
      rcases List.mem_append.mp hmb with z | z
      · exact List.mem_append_left _ z
      · rcases List.mem_cons.mp z with z | z
        · exact absurd (congrArg Prod.fst z) q
        · exact List.mem_append_right _ (.tail _ z)
  · obtain ⟨hp1, hp2⟩ := hx p hp
    have ne : p.1 ≠ a := fun z => by rw [z, e] at hp2; cases hp2
    refine ⟨?_, by rw [upd_ne _ _ ne]; exact hp2⟩
    rcases List.mem_append.mp hp1 with z | z
    · exact List.mem_append_left _ z
    · rcases List.mem_cons.mp z with z | z
      · exact absurd (congrArg Prod.fst z) ne
      · exact List.mem_append_right _ (.tail _ z)
/-- one object made -/
theorem RepN.new (R : RepN h₀ L h ex H) : ∃ news, News h₀ L h news ∧ ∀ l co o h', (∀ p ∈ news, p.1 < l) → ORep co o → News h₀ L h' ((l, co) :: news) → RepN h₀ L h' ex (upd H l o) ∧ H l = none := by
  obtain ⟨news, N, hd, hH, hx⟩ := R
  refine ⟨news, N, fun l co o h' hl hr N' => ?_⟩
  have hn : H l = none := by
    cases q : H l with
    | none => rfl
    | some x => obtain ⟨c, hm, _⟩ := hH l x q; exact absurd (hl _ hm) (Nat.lt_irrefl _)
  refine ⟨⟨_, N', ?_, fun b ob hb => ?_, fun p hp => ?_⟩, hn⟩
  · rw [List.map_cons, List.nodup_cons]
    refine ⟨fun hm => ?_, hd⟩
    obtain ⟨p, hp, e⟩ := List.mem_map.mp hm
    exact absurd (hl p hp) (by rw [e]; exact Nat.lt_irrefl _)
  · by_cases q : b = l
    · subst q; rw [upd_self] at hb; cases hb; exact ⟨co, .head _, hr⟩
    · rw [upd_ne _ _ q] at hb
      obtain ⟨cb, hmb, hrb⟩ := hH b ob hb
      exact ⟨cb, .tail _ hmb, hrb⟩
  · obtain ⟨hp1, hp2⟩ := hx p hp
    have ne : p.1 ≠ l := fun z => absurd (hl _ hp1) (by rw [z]; exact Nat.lt_irrefl _)
    exact ⟨.tail _ hp1, by rw [upd_ne _ _ ne]; exact hp2⟩
/-- an object made that the abstract heap does not tell -/
theorem RepN.junk (R : RepN h₀ L h ex H) : ∃ news, News h₀ L h news ∧ ∀ l co h', (∀ p ∈ news, p.1 < l) → News h₀ L h' ((l, co) :: news) → RepN h₀ L h' ((l, co) :: ex) H := by
  obtain ⟨news, N, hd, hH, hx⟩ := R
  refine ⟨news, N, fun l co h' hl N' => ?_⟩
  have hn : H l = none := by
    cases q : H l with
    | none => rfl
    | some x => obtain ⟨c, hm, _⟩ := hH l x q; exact absurd (hl _ hm) (Nat.lt_irrefl _)
  refine ⟨_, N', ?_, fun b ob hb => ?_, fun p hp => ?_⟩
  · rw [List.map_cons, List.nodup_cons]
    refine ⟨fun hm => ?_, hd⟩
    obtain ⟨p, hp, e⟩ := List.mem_map.mp hm
    exact absurd (hl p hp) (by rw [e]; exact Nat.lt_irrefl _)
  · obtain ⟨cb, hmb, hrb⟩ := hH b ob hb
    exact ⟨cb, .tail _ hmb, hrb⟩
  · rcases List.mem_cons.mp hp with rfl | hp
    · exact ⟨.head _, hn⟩
    · exact ⟨.tail _ (hx p hp).1, (hx p hp).2⟩
theorem RepN.less {ex' : List (Addr × Obj)} (R : RepN h₀ L h ex H) (hs : ∀ p ∈ ex', p ∈ ex) : RepN h₀ L h ex' H := by
  obtain ⟨news, N, hd, hH, hx⟩ := R
  exact ⟨news, N, hd, hH, fun p hp => hx p (hs p hp)⟩
theorem RepN.same (R : RepN h₀ L h ex H) (hs : ∀ a o, h.get? a = some o → a ≠ L → h₀.get? a = none → h'.get? a = some o) : RepN h₀ L h' ex H := by
  obtain ⟨news, N, hd, hH, hx⟩ := R
  exact ⟨news, fun p hp => ⟨hs _ _ (N p hp).1 (N p hp).2.1 (N p hp).2.2, (N p hp).2⟩, hd, hH, hx⟩
theorem RepN.sameBut (R : RepN h₀ L h ex H) (hs : Heap.SameBut L h h') : RepN h₀ L h' ex H := R.same fun a o e n _ => (hs.2 a n).trans e
theorem RepN.push (R : RepN h₀ L h ex H) (o : Obj) : RepN h₀ L (h.push o) ex H := R.same fun a _ e _ _ => Heap.get?_push_of_some _ e
theorem RepN.pushNew (F : Fr h₀ L h m) (R : RepN h₀ L h ex H) {o : Obj} {ao : AObj} (hr : ORep o ao) : RepN h₀ L (h.push o) ex (upd H h.objs.size ao) ∧ H h.objs.size = none := by
  obtain ⟨news, N, k⟩ := R.new
  exact k _ _ _ _ (fun p hp => Heap.lt_size (N p hp).1) hr (N.push F o hr.live)
/-- of what stands beside: one turned -/
theorem RepN.extra (R : RepN h₀ L h ((a, co) :: ex) H) {co' : Obj} (hs : Heap.SameBut a h h') (ho : h'.get? a = some co') (hx : ∀ p ∈ ex, p.1 ≠ a) : RepN h₀ L h' ((a, co') :: ex) H := by
  obtain ⟨news, N, hd, hH, hx'⟩ := R
  obtain ⟨hm, hn⟩ := hx' (a, co) (.head _)
  obtain ⟨pre, post, rfl, h1, h2⟩ := split_at hd hm
  refine ⟨_, news_set N h1 h2 hs ho, by simpa using hd, fun b ob hb => ?_, fun p hp => ?_⟩
  · obtain ⟨cb, hmb, hrb⟩ := hH b ob hb
    have ne : b ≠ a := fun z => by
      have hn' : H a = none := hn
      rw [z, hn'] at hb; cases hb
    refine ⟨cb, ?_, hrb⟩
    rcases List.mem_append.mp hmb with z | z
    · exact List.mem_append_left _ z
    · rcases List.mem_cons.mp z with z | z
      · exact absurd (congrArg Prod.fst z) ne
      · exact List.mem_append_right _ (.tail _ z)
  · rcases List.mem_cons.mp hp with rfl | hp
    · exact ⟨by simp, hn⟩
    · obtain ⟨hp1, hp2⟩ := hx' p (.tail _ hp)
      refine ⟨?_, hp2⟩
      rcases List.mem_append.mp hp1 with z | z
      · exact List.mem_append_left _ z
      · rcases List.mem_cons.mp z with z | z
        · exact absurd (congrArg Prod.fst z) (hx p hp)
        · exact List.mem_append_right _ (.tail _ z)
theorem RepN.getEx (R : RepN h₀ L h ex H) {p : Addr × Obj} (hp : p ∈ ex) : h.get? p.1 = some p.2 ∧ p.1 ≠ L ∧ h₀.get? p.1 = none := by
  obtain ⟨news, N, _, _, hx⟩ := R
  exact N p (hx p hp).1
theorem RepN.isList (R : RepN h₀ L h ex H) {a : Addr} {vs : List AV} (e : H a = some (.list vs)) : ∃ its, h.IsList a (List.toArray its) ∧ VReps its vs := by
  obtain ⟨co, hg, hr⟩ := R.get e
  cases hr with
  | list hv => exact ⟨_, ⟨_, hg, rfl, _, rfl⟩, hv⟩
theorem RepN.isTup (R : RepN h₀ L h ex H) {a : Addr} {vs : List AV} (e : H a = some (.tup vs)) : ∃ its, IsTup h a (List.toArray its) ∧ VReps its vs := by
  obtain ⟨co, hg, hr⟩ := R.get e
  cases hr with
  | tup hv => exact ⟨_, ⟨_, hg, rfl, _, rfl⟩, hv⟩
end
end
section
set_option genSizeOf false
set_option genSizeOfSpec false
set_option maxRecDepth 100000
set_option genInjectivity false in
structure Wd where
  prog : Program
  w : World
  K : Frag
  p : Program
  loose : List Str
  mean : ExcName → Option Value
  mg : Str → Option Value
  mb : Str → Option Value
  base : Heap
  cl : List (Str × Addr)

set_option genInjectivity false in
/-- a frame at hand: lv levels are free -/
structure FC (V : Wd) (lv : Nat) (nm : Str) (sc : Scope) where
  L : Addr
  a : Addr
  cd : Value
  A : Around
  A₀ : Around
  outer : List Env
  h₀ : Heap
  B : Below A₀ V.base outer h₀
  X : V.K.In h₀
  T : Top V.p V.loose V.mean V.mg V.mb h₀
  hA : A.frames = some (envX nm sc L a cd V.cl :: outer)
  hh : A.handled = none
  hd : A.depth + lv < recursionLimit
  hu : A.units + 10 * lv < cLine
noncomputable abbrev FC.env {V : Wd} {lv : Nat} {nm : Str} {sc : Scope} (C : FC V lv nm sc) : Env := envX nm sc C.L C.a C.cd V.cl

noncomputable abbrev Loc := List (Option AV)
noncomputable abbrev ME := Loc → AHeap → (AV → AHeap → Prop) → Prop
noncomputable abbrev MA := Loc → AHeap → (List AV → AHeap → Prop) → Prop
noncomputable abbrev MT := Loc → AHeap → (Bool → AHeap → Prop) → Prop
inductive AFl where
  | next
  | brk
  | cont
  | ret (v : AV)
noncomputable abbrev PS := AFl → Loc → AHeap → Prop
noncomputable abbrev MS := Loc → AHeap → PS → Prop

structure LocR (nz : List Str) (mm : Str → Option Value) (ρ : Loc) : Prop where
  len : ρ.length = nz.length
  at_ : ∀ (i : Nat) (x : Str) (v : AV), nz[i]? = some x → ρ[i]? = some (some v) → ∃ cv, mm x = some cv ∧ VRep cv v
theorem LocR.set {nz : List Str} {mm : Str → Option Value} {ρ : Loc} (R : LocR nz mm ρ) (hn : nz.Nodup) {i : Nat} {x : Str} (hi : nz[i]? = some x) {v : Value} {av : AV} (hv : VRep v av) :
    LocR nz (fun y => if y = x then some v else mm y) (ρ.set i (some av)) := by
  refine ⟨by rw [List.length_set]; exact R.len, fun j y w hj hw => ?_⟩
  by_cases q : j = i
  · subst q
    rw [hi] at hj; cases hj
    have hlt : j < ρ.length := by rw [R.len]; exact (List.getElem?_eq_some_iff.mp hi).1
    rw [List.getElem?_set_self hlt] at hw
    cases hw
    exact ⟨v, by simp, hv⟩
  · rw [List.getElem?_set_ne (Ne.symm q)] at hw
    obtain ⟨cv, h1, h2⟩ := R.at_ j y w hj hw
    have ne : y ≠ x := by
      rintro rfl
      have h3 := List.getElem?_eq_some_iff.mp hi
      have h4 := List.getElem?_eq_some_iff.mp hj
      exact q ((List.getElem?_inj h4.1 hn).mp (hj.trans hi.symm))
    exact ⟨cv, by simp [ne, h1], h2⟩

/-- trees that leave the names alone -/
noncomputable def SimX {α β : Type} (rep : α → β → Prop) (V : Wd) (lv : Nat) (nm : Str) (sc : Scope) (nz : List Str) (t : Env → Sem α) (m : Loc → AHeap → (β → AHeap → Prop) → Prop) : Prop :=
  ∀ (C : FC V lv nm sc) (ρ : Loc) (H : AHeap) (P : β → AHeap → Prop), m ρ H P →
    ∀ (s : Shared) (ex : List (Addr × Obj)) (mm : Str → Option Value) (Q : α → Shared → Prop) (E : Value → Shared → Prop),
      Fr C.h₀ C.L s.heap mm → LocR nz mm ρ → RepN C.h₀ C.L s.heap ex H →
      (∀ v av H' h' tk, rep v av → P av H' → Fr C.h₀ C.L h' mm → RepN C.h₀ C.L h' ex H' → Q v { s with heap := h', toks := tk }) →
      wpAny (model V.prog V.w) C.A (t C.env) Q E s
noncomputable abbrev SimE := @SimX Value AV VRep
noncomputable abbrev SimA := @SimX (List Value) (List AV) VReps
noncomputable abbrev SimT := @SimX Bool Bool Eq
inductive FRep : Flow → AFl → Prop
  | next : FRep .next .next
  | brk : FRep .brk .brk
  | cont : FRep .cont .cont
  | ret {v av} : VRep v av → FRep (.ret v) (.ret av)
/-- trees that store names -/
noncomputable def SimS (V : Wd) (lv : Nat) (nm : Str) (sc : Scope) (nz : List Str) (t : Env → Sem Flow) (m : MS) : Prop :=
  ∀ (C : FC V lv nm sc) (ρ : Loc) (H : AHeap) (P : PS), m ρ H P →
    ∀ (s : Shared) (ex : List (Addr × Obj)) (mm : Str → Option Value) (Q : Flow → Shared → Prop) (E : Value → Shared → Prop),
      Fr C.h₀ C.L s.heap mm → LocR nz mm ρ → RepN C.h₀ C.L s.heap ex H →
      (∀ f fl ρ' H' h' tk mm', FRep f fl → P fl ρ' H' → Fr C.h₀ C.L h' mm' → LocR nz mm' ρ' → RepN C.h₀ C.L h' ex H' → Q f { s with heap := h', toks := tk }) →
      wpAny (model V.prog V.w) C.A (t C.env) Q E s
/-- trees that store names and hand on nothing -/
noncomputable def SimU (V : Wd) (lv : Nat) (nm : Str) (sc : Scope) (nz : List Str) (t : Env → Sem Unit) (m : Loc → AHeap → (Loc → AHeap → Prop) → Prop) : Prop :=
  ∀ (C : FC V lv nm sc) (ρ : Loc) (H : AHeap) (P : Loc → AHeap → Prop), m ρ H P →
    ∀ (s : Shared) (ex : List (Addr × Obj)) (mm : Str → Option Value) (Q : Unit → Shared → Prop) (E : Value → Shared → Prop),
      Fr C.h₀ C.L s.heap mm → LocR nz mm ρ → RepN C.h₀ C.L s.heap ex H →
      (∀ ρ' H' h' tk mm', P ρ' H' → Fr C.h₀ C.L h' mm' → LocR nz mm' ρ' → RepN C.h₀ C.L h' ex H' → Q () { s with heap := h', toks := tk }) →
      wpAny (model V.prog V.w) C.A (t C.env) Q E s

/-! values -/
noncomputable def mConst (v : AV) : ME := fun _ H P => P v H
noncomputable def mLoc (i : Nat) : ME := fun ρ H P => match ρ[i]? with
  | some (some v) => P v H
  | _ => False

/-- what an int operation gives -/
noncomputable def intOp : Operator → Int → Int → Option Int
  | .Add, a, b => some (a + b)
  | .Sub, a, b => some (a - b)
  | .Mult, a, b => if b.natAbs < 2 ^ 62 then some (a * b) else none
  | .FloorDiv, a, b => if b ≠ 0 ∧ b.natAbs < 1073741824 then some (a.fdiv b) else none
  | .Mod, a, b => if b ≠ 0 then some (a.fmod b) else none
  | .Pow, a, b => if 0 ≤ b ∧ b ≤ 1000 ∧ a.natAbs < 2 ^ 64 then some (a ^ b.toNat) else none
  | _, _, _ => none
noncomputable def LIM : Nat := 1000000
noncomputable def binS (op : Operator) (a b : AV) (H : AHeap) (P : AV → AHeap → Prop) : Prop := match a, b with
  | .int x, .int y => match intOp op x y with
    | some z => P (.int z) H
    | none => False
  | .ref l, .ref k => match op with
    | .Add => ∃ vs ws, H l = some (.list vs) ∧ H k = some (.list ws) ∧ vs.length + ws.length ≤ LIM ∧ ∀ n, H n = none → P (.ref n) (upd H n (.list (vs ++ ws)))
    | _ => False
  | .ref l, .int x => match op with
    | .Mult => ∃ vs, H l = some (.list vs) ∧ 0 ≤ x ∧ x ≤ 1000 ∧ vs.length ≤ 1000 ∧ ∀ n, H n = none → P (.ref n) (upd H n (.list (List.replicate x.toNat vs).flatten))
    | _ => False
  | _, _ => False
noncomputable def mBin (op : Operator) (m₁ m₂ : ME) : ME := fun ρ H P => m₁ ρ H fun a H => m₂ ρ H fun b H => binS op a b H P
noncomputable def unS (op : UnaryOp) (a : AV) (H : AHeap) (P : AV → AHeap → Prop) : Prop := match op, a with
  | .USub, .int x => P (.int (-x)) H
  | _, _ => False
noncomputable def mUn (op : UnaryOp) (m : ME) : ME := fun ρ H P => m ρ H fun a H => unS op a H P

section
variable {V : Wd} {lv : Nat} {nm : Str} {sc : Scope} {nz : List Str}

theorem sim_int {i : Int} {k : Nat} {pos : Pos} : SimE V lv nm sc nz (eval (.Constant (.int i) k pos)) (mConst (.int i)) := by
  intro C ρ H P hm s ex mm Q E F LR R k
  exact wpAny_Constant_int (k _ _ H _ _ (.int _ _) hm F R)
theorem sim_bool {b : Bool} {k : Nat} {pos : Pos} : SimE V lv nm sc nz (eval (.Constant (.bool b) k pos)) (mConst (.bool b)) := by
  intro C ρ H P hm s ex mm Q E F LR R k
  exact wpAny_pure (k _ _ H s.heap s.toks (.bool _) hm F R)
theorem sim_none {k : Nat} {pos : Pos} : SimE V lv nm sc nz (eval (.Constant .none k pos)) (mConst .none) := by
  intro C ρ H P hm s ex mm Q E F LR R k
  exact wpAny_pure (k _ _ H s.heap s.toks .none hm F R)
theorem sim_loc {x : Str} {pos : Pos} {i : Nat} (hx : nz[i]? = some x) (hk : sc.kind = .function) (hl : ∀ L a cd, (envOf nm sc L a cd).kindOf x = some .local) (hd : (x == ("__debug__" : Str)) = false) :
    SimE V lv nm sc nz (eval (.Name x pos)) (mLoc i) := by
  intro C ρ H P hm s ex mm Q E F LR R k
  unfold mLoc at hm
  split at hm
  · rename_i v hv
    obtain ⟨cv, h1, h2⟩ := LR.at_ i x v hx hv
    exact nameX_L F h1 (k cv v H s.heap s.toks h2 hm F R) hk (hl C.L C.a C.cd) hd
  · exact hm.elim
/-- a number of the module's top -/
theorem sim_glob {x : Str} {pos : Pos} {i : Int} {t : Tok} (hg : nsIn V.K mainGlobals x = some (some (.int i t))) (hk : sc.kind = .function) (hl : ∀ L a cd, (envOf nm sc L a cd).kindOf x = some .globalImplicit) (hd : (x == ("__debug__" : Str)) = false) :
    SimE V lv nm sc nz (eval (.Name x pos)) (mConst (.int i)) := by
  intro C ρ H P hm s ex mm Q E F LR R k
  exact nameX_K F C.X (topRead_of C.T) hg (k _ _ H s.heap s.toks (.int _ _) hm F R) hk (hl C.L C.a C.cd) hd

theorem intMulOk_of {a b : Int} (h : b.natAbs < 2 ^ 62) : IntMulOk a b := by
  have h' : Builtin.Int.intBits b ≤ 64 := intBits_le_64 (by omega) (by omega)
  unfold IntMulOk
  have h2 : ¬ (Builtin.Int.intBits b > shortFactorBits) := Nat.not_lt.mpr h'
  simp [h2]
theorem foldl_flatten (vs : List Value) : ∀ (n : Nat) (acc : List Value), (List.replicate n vs.toArray).foldl (fun x1 x2 => x1 ++ x2) acc.toArray = (acc ++ (List.replicate n vs).flatten).toArray
  | 0, acc => by simp
  | n + 1, acc => by
    rw [List.replicate_succ, List.foldl_cons, List.replicate_succ, List.flatten_cons]
    have e : acc.toArray ++ vs.toArray = (acc ++ vs).toArray := by simp
    rw [e, foldl_flatten vs n (acc ++ vs), List.append_assoc]
theorem VReps.flatten {vs : List Value} {avs : List AV} (h : VReps vs avs) : ∀ n, VReps (List.replicate n vs).flatten (List.replicate n avs).flatten
  | 0 => by simp; exact .nil
  | n + 1 => by
    rw [List.replicate_succ, List.flatten_cons, List.replicate_succ, List.flatten_cons]
    exact h.append (h.flatten n)

theorem sim_bin {l r : Expr} {op : Operator} {pos : Pos} {m₁ m₂ : ME} (h₁ : SimE V lv nm sc nz (eval l) m₁) (h₂ : SimE V lv nm sc nz (eval r) m₂) : SimE V lv nm sc nz (eval (.BinOp l op r pos)) (mBin op m₁ m₂) := by
  intro C ρ H P hm s ex mm Q E F LR R k
  refine wpAny_BinOp (h₁ C ρ H _ hm s ex mm _ E F LR R fun va a H₁ h₁' tk₁ ra hm₁ F₁ R₁ => ?_)
  refine h₂ C ρ H₁ _ hm₁ _ ex mm _ E F₁ LR R₁ fun vb b H₂ h₂' tk₂ rb hm₂ F₂ R₂ => ?_
  unfold binS at hm₂
  cases ra with
  | int x t =>
    cases rb with
    | int y u =>
      dsimp only at hm₂
      cases op <;> try exact hm₂.elim
      · exact add_int (k _ _ H₂ _ _ (.int _ _) hm₂ F₂ R₂)
      · exact sub_int (k _ _ H₂ _ _ (.int _ _) hm₂ F₂ R₂)
      · by_cases q : y.natAbs < 2 ^ 62
        · simp only [intOp, if_pos q] at hm₂
          exact PyProof.Rows.mul_int (k _ _ H₂ _ _ (.int _ _) hm₂ F₂ R₂) (intMulOk_of q)
        · simp only [intOp, if_neg q] at hm₂
      · by_cases q : y ≠ 0
        · simp only [intOp, if_pos q] at hm₂
          exact PyProof.Rows.mod_int' q (k _ _ H₂ _ _ (.int _ _) hm₂ F₂ R₂)
        · simp only [intOp, if_neg q] at hm₂
      · by_cases q : 0 ≤ y ∧ y ≤ 1000 ∧ x.natAbs < 2 ^ 64
        · simp only [intOp, if_pos q] at hm₂
          exact PyProof.Rows.pow_int_small q.1 (by omega) q.2.2 (k _ _ H₂ _ _ (.int _ _) hm₂ F₂ R₂)
        · simp only [intOp, if_neg q] at hm₂
      · by_cases q : y ≠ 0 ∧ y.natAbs < 1073741824
        · simp only [intOp, if_pos q] at hm₂
          exact PyProof.Rows.floordiv_int q.1 (k _ _ H₂ _ _ (.int _ _) hm₂ F₂ R₂) (Or.inl (PyProof.noPylong_small q.2))
        · simp only [intOp, if_neg q] at hm₂
    | _ => exact hm₂.elim
  | ref l =>
    cases rb with
    | ref k' =>
      dsimp only at hm₂
      cases op <;> try exact hm₂.elim
      obtain ⟨vs, ws, e1, e2, hz, hP⟩ := hm₂
      obtain ⟨its, hl, r1⟩ := R₂.isList e1
      obtain ⟨jts, hk, r2⟩ := R₂.isList e2
      obtain ⟨news, N, nw⟩ := R₂.new
      have z1 := r1.length
      have z2 := r2.length
      refine add_lists F₂ N hl hk (fun h' F' N' => ?_) (by rw [sizeLine_eq, z1, z2]; unfold LIM at hz; omega)
      obtain ⟨R', hn⟩ := nw _ _ (.list (vs ++ ws)) h' (fun p hp => Heap.lt_size (N p hp).1) (.list (n := 0) (r1.append r2)) N'
      exact k _ _ _ _ _ (.ref _) (hP _ hn) F' R'
    | int x u =>
      dsimp only at hm₂
      cases op <;> try exact hm₂.elim
      obtain ⟨vs, e1, h0, h1, hz, hP⟩ := hm₂
      obtain ⟨co, hg, hr⟩ := R₂.get e1
      obtain ⟨news, N, nw⟩ := R₂.new
      cases hr with
      | @list its n _ hv =>
        have z1 := hv.length
        refine PyProof.Rows.mul_list F₂ N hg (by omega) (by omega) ?_ (fun h' F' N' => ?_)
        · rw [List.size_toArray, z1]
          have : vs.length * x.toNat ≤ 1000 * 1000 := Nat.mul_le_mul hz (by omega)
          omega
        · have e : (List.foldl (fun x1 x2 => x1 ++ x2) #[] (List.replicate (if its.toArray.isEmpty = true then 0 else x.toNat) its.toArray)) = ((List.replicate x.toNat its).flatten).toArray := by
            have z := foldl_flatten its (if its.toArray.isEmpty = true then 0 else x.toNat) []
            rw [List.nil_append] at z
            rw [z]
            cases its with
            | nil => simp
            | cons a r => simp
          rw [e] at N'
          obtain ⟨R', hn⟩ := nw _ _ (.list (List.replicate x.toNat vs).flatten) h' (fun p hp => Heap.lt_size (N p hp).1) (.list (n := 0) (hv.flatten _)) N'
          exact k _ _ _ _ _ (.ref _) (hP _ hn) F' R'
    | _ => exact hm₂.elim
  | _ => exact hm₂.elim
theorem sim_un {op : UnaryOp} {x : Expr} {pos : Pos} {m : ME} (h : SimE V lv nm sc nz (eval x) m) : SimE V lv nm sc nz (eval (.UnaryOp op x pos)) (mUn op m) := by
  intro C ρ H P hm s ex mm Q E F LR R k
  refine wpAny_UnaryOp (h C ρ H _ hm s ex mm _ E F LR R fun va a H₁ h₁' tk₁ ra hm₁ F₁ R₁ => ?_)
  unfold unS at hm₁
  cases op <;> cases ra <;> try exact hm₁.elim
  exact PySem.P.neg_int (k _ _ H₁ _ _ (.int _ _) hm₁ F₁ R₁)
end
end
section
set_option genSizeOf false
set_option genSizeOfSpec false
set_option maxRecDepth 100000
noncomputable def intsV (xs : List Int) : List AV := xs.map .int
theorem VReps.toInts {xs : List Int} : ∀ {vs : List Value}, VReps vs (intsV xs) → IntsAre vs xs := by
  induction xs with
  | nil => intro vs h; cases h; exact .nil
  | cons x r ih =>
    intro vs h
    cases h with
    | cons hv h => cases hv; exact .cons _ _ (ih h)
theorem VReps.of_ints : ∀ {vs : List Value} {xs : List Int}, IntsAre vs xs → VReps vs (intsV xs)
  | _, _, .nil => .nil
  | _, _, .cons x t h => .cons (.int x t) (VReps.of_ints h)
theorem IntsAre.kf : ∀ {vs : List Value} {xs : List Int}, IntsAre vs xs → kf_ints vs = true
  | _, _, .nil => rfl
  | _, _, .cons x t h => by unfold kf_ints; exact IntsAre.kf h
theorem IntsAre.anyIs (k : Int) : ∀ {vs : List Value} {xs : List Int}, IntsAre vs xs → vs.any (isInt k) = xs.contains k
  | _, _, .nil => rfl
  | _, _, .cons x t h => by
    rw [List.any_cons, List.contains_cons, IntsAre.anyIs k h]
    congr 1
    simp only [isInt, Bool.beq_eq_decide_eq]
    by_cases q : x = k
    · simp [q]
    · simp [q, Ne.symm q]

noncomputable def intCmp : CmpOp → Int → Int → Option Bool
  | .Eq, a, b => some (decide (a = b))
  | .NotEq, a, b => some (decide (a ≠ b))
  | .Lt, a, b => some (decide (a < b))
  | .LtE, a, b => some (decide (a ≤ b))
  | .Gt, a, b => some (decide (b < a))
  | .GtE, a, b => some (decide (b ≤ a))
  | _, _, _ => none
/-- two objects: lists of which one is empty; tuples of ints -/
noncomputable def refCmp (eq : Bool) (H : AHeap) (l k : Addr) (P : Bool → AHeap → Prop) : Prop :=
  (∃ vs ws, H l = some (.list vs) ∧ H k = some (.list ws) ∧ (vs = [] ∨ ws = []) ∧ vs.length ≤ LIM ∧ ws.length ≤ LIM ∧ P (decide (vs.length = ws.length) == eq) H) ∨
  (∃ xs ys, H l = some (.tup (intsV xs)) ∧ H k = some (.tup (intsV ys)) ∧ P (decide (xs = ys) == eq) H)
noncomputable def cmpS (op : CmpOp) (a b : AV) (H : AHeap) (P : Bool → AHeap → Prop) : Prop := match a, b with
  | .int x, .int y => match intCmp op x y with
    | some c => P c H
    | none => False
  | .ref l, .ref k => match op with
    | .Eq => refCmp true H l k P
    | .NotEq => refCmp false H l k P
    | _ => False
  | .int x, .ref l => match op with
    | .In => ∃ xs, H l = some (.list (intsV xs)) ∧ P (xs.contains x) H
    | _ => False
  | .ref _, .none => match op with
    | .Is => P false H
    | _ => False
  | .none, .none => match op with
    | .Is => P true H
    | _ => False
  | _, _ => False
noncomputable def mCmp (op : CmpOp) (m₁ m₂ : ME) : ME := fun ρ H P => m₁ ρ H fun a H => m₂ ρ H fun b H => cmpS op a b H fun c H => P (.bool c) H
noncomputable def tCmp (op : CmpOp) (m₁ m₂ : ME) : MT := fun ρ H P => m₁ ρ H fun a H => m₂ ρ H fun b H => cmpS op a b H P
noncomputable def truthS (v : AV) (P : Bool → Prop) : Prop := match v with
  | .bool b => P b
  | .int i => P (i != 0)
  | _ => False
noncomputable def tVal (m : ME) : MT := fun ρ H P => m ρ H fun v H => truthS v fun b => P b H
noncomputable def tNot (m : MT) : MT := fun ρ H P => m ρ H fun b H => P (!b) H
noncomputable def tAnd (m₁ m₂ : MT) : MT := fun ρ H P => m₁ ρ H fun b H => match b with
  | true => m₂ ρ H P
  | false => P false H
noncomputable def tOr (m₁ m₂ : MT) : MT := fun ρ H P => m₁ ρ H fun b H => match b with
  | true => P true H
  | false => m₂ ρ H P
noncomputable def mOr (m₁ m₂ : ME) : ME := fun ρ H P => m₁ ρ H fun v H => truthS v fun b => match b with
  | true => P v H
  | false => m₂ ρ H P
noncomputable def mIf (t : MT) (m₁ m₂ : ME) : ME := fun ρ H P => t ρ H fun b H => match b with
  | true => m₁ ρ H P
  | false => m₂ ρ H P
/-- a < b < c -/
noncomputable def tChain (op₁ op₂ : CmpOp) (m₁ m₂ m₃ : ME) : MT := fun ρ H P => m₁ ρ H fun a H => m₂ ρ H fun b H => cmpS op₁ a b H fun c H => match c with
  | true => m₃ ρ H fun d H => cmpS op₂ b d H P
  | false => P false H
noncomputable def aNil : MA := fun _ H P => P [] H
noncomputable def aCons (m : ME) (ms : MA) : MA := fun ρ H P => m ρ H fun v H => ms ρ H fun vs H => P (v :: vs) H
noncomputable def mTup (ms : MA) : ME := fun ρ H P => ms ρ H fun vs H => vs.length ≤ 1000 ∧ ∀ n, H n = none → P (.ref n) (upd H n (.tup vs))
noncomputable def mList (ms : MA) : ME := fun ρ H P => ms ρ H fun vs H => vs.length ≤ 1000 ∧ ∀ n, H n = none → P (.ref n) (upd H n (.list vs))
/-- the place of an index, counted from behind where it is below nought -/
noncomputable def idxOf (n : Nat) (k : Int) : Int := if k < 0 then k + n else k
noncomputable def subS (o i : AV) (H : AHeap) (P : AV → AHeap → Prop) : Prop := match o, i with
  | .ref l, .int k => ∃ vs v, (H l = some (.list vs) ∨ H l = some (.tup vs)) ∧ 0 ≤ idxOf vs.length k ∧ -(2 ^ 62) ≤ k ∧ k < 2 ^ 62 ∧ vs[(idxOf vs.length k).toNat]? = some v ∧ P v H
  | _, _ => False
noncomputable def mSub (m₁ m₂ : ME) : ME := fun ρ H P => m₁ ρ H fun o H => m₂ ρ H fun i H => subS o i H P
noncomputable def partS (v : AV) (P : Option Int → Prop) : Prop := match v with
  | .int i => P (some i)
  | .none => P none
  | _ => False
noncomputable def pickL (vs : List AV) (lo hi : Option Int) : List AV := (vs.drop (lo.elim 0 (clipAt vs.length))).take (hi.elim vs.length (clipAt vs.length) - lo.elim 0 (clipAt vs.length))
noncomputable def sliceS (o : AV) (x y : Option Int) (H : AHeap) (P : AV → AHeap → Prop) : Prop := match o with
  | .ref l => ∃ vs, H l = some (.list vs) ∧ vs.length ≤ LIM ∧ ∀ n, H n = none → P (.ref n) (upd H n (.list (pickL vs x y)))
  | _ => False
noncomputable def mSlice (m lo hi : ME) : ME := fun ρ H P => m ρ H fun o H => lo ρ H fun a H => hi ρ H fun b H => partS a fun x => partS b fun y => sliceS o x y H P

theorem kqdPs_ints : ∀ xs : List Int, kqdPs (xs.map Dat.int) = xs.map PyData.int
  | [] => rfl
  | x :: r => by simp [kqdPs, kqdP, kqdPs_ints r]
theorem eqv_ints (xs ys : List Int) : PyData.eqv (.tuple (xs.map .int)) (.tuple (ys.map .int)) = decide (xs = ys) := by
  have q := kqd_eqv 9 (.tuple (xs.map .int)) (.tuple (ys.map .int)) 9 (by simp [kqdOk]) (by simp [kqdOk])
  rw [kqdP, kqdP, kqdPs_ints, kqdPs_ints, Dat.tuple.injEq] at q
  have e : (xs.map Dat.int = ys.map Dat.int) ↔ xs = ys := ⟨fun h => by
    have := congrArg (List.map fun d : Dat => match d with | .int i => i | _ => 0) h
    simpa [List.map_map, Function.comp_def] using this, fun h => by rw [h]⟩
  rw [e] at q
  by_cases h : xs = ys
  · rw [decide_eq_true h]; exact q.mpr h
  · rw [decide_eq_false h]; exact Bool.eq_false_iff.mpr fun z => h (q.mp z)
theorem lay_ints (xs : List Int) : SeqAt.shaped (.tuple (xs.map .int)) = true := by
  have l := kqd_lay 9 (.tuple (xs.map .int)) (by simp [kqdOk])
  rw [kqdP, kqdPs_ints] at l
  unfold SeqAt.shaped
  rw [l.1, Bool.true_and]
  exact decide_eq_true (Nat.le_trans l.2 (by decide))
theorem reads_ints {h : Heap} : ∀ {vs : List Value} {xs : List Int}, IntsAre vs xs → ReadsAll h vs (xs.map PyData.int) []
  | _, _, .nil => .nil
  | _, _, .cons x t r => .cons (.int x t) (reads_ints r)

section
variable {V : Wd} {lv : Nat} {nm : Str} {sc : Scope} {nz : List Str}
theorem cmpS_ok {C : FC V lv nm sc} {op : CmpOp} {va vb : Value} {a b : AV} {H : AHeap} {P : Bool → AHeap → Prop} {s : Shared} {ex : List (Addr × Obj)} {Q : Value → Shared → Prop} {E : Value → Shared → Prop}
    (hu : C.A.units + 64 < cLine) (ra : VRep va a) (rb : VRep vb b) (R : RepN C.h₀ C.L s.heap ex H) (hm : cmpS op a b H P) (k : ∀ c, P c H → Q (.bool c) s) : wpAny (model V.prog V.w) C.A (compareOp op va vb) Q E s := by
  unfold cmpS at hm
  have hu1 : C.A.units < cLine := by omega
  cases ra with
  | int x t =>
    cases rb with
    | int y u =>
      dsimp only at hm
      cases op <;> simp only [intCmp] at hm <;> try exact hm.elim
      · exact PyProof.Rows.eq_int (by rw [Bool.beq_eq_decide_eq]; exact k _ hm)
      · exact PyProof.Rows.ne_int (by rw [bne, Bool.beq_eq_decide_eq, ← decide_not]; exact k _ hm)
      · exact PyProof.Rows.lt_int (k _ hm)
      · exact PySem.P.le_int (k _ hm)
      · exact PyProof.Rows.gt_int (k _ hm)
      · exact PySem.P.ge_int (k _ hm)
    | ref l =>
      cases op <;> try exact hm.elim
      obtain ⟨xs, e, hP⟩ := hm
      obtain ⟨co, pre, post, hr, N, _, _, _, _⟩ := R.split e
      cases hr with
      | list hv =>
        refine kf_in N (List.mem_append_right _ (.head _)) ?_ rfl ?_
        · exact IntsAre.kf hv.toInts
        · rw [IntsAre.anyIs x hv.toInts]; exact k _ hP
    | _ => exact hm.elim
  | ref l =>
    cases rb with
    | ref j =>
      cases op <;> try exact hm.elim
      · rcases hm with ⟨vs, ws, e1, e2, he, z1, z2, hP⟩ | ⟨xs, ys, e1, e2, hP⟩
        · obtain ⟨its, hl, r1⟩ := R.isList e1
          obtain ⟨jts, hk, r2⟩ := R.isList e2
          have y1 := r1.length
          have y2 := r2.length
          by_cases q : vs.length = ws.length
          · have hvs : vs = [] := by
              rcases he with h | h
              · exact h
              · rw [h] at q; exact List.length_eq_zero_iff.mp q
            have hi : its = [] := List.length_eq_zero_iff.mp (by rw [y1, hvs]; rfl)
            have hj : jts = [] := List.length_eq_zero_iff.mp (by rw [y2, ← q, hvs]; rfl)
            subst hi hj
            rw [decide_eq_true q] at hP
            exact SeqAt.eq_listAt (e := fun _ => true) hl hk rfl hu1 (fun j h1 => by simp at h1) (k _ hP)
          · rw [decide_eq_false q] at hP
            exact SeqAt.eq_list_lengthsAt hl hk (by simp [y1, y2, q]) hu1 (k _ hP)
        · obtain ⟨co, pre, post, hr, N, _, _, hH, _⟩ := R.split e1
          obtain ⟨cb, hmb, hrb⟩ := hH _ _ e2
          cases hr with
          | tup r1 =>
            cases hrb with
            | tup r2 =>
              refine eq_dataH (reads_tuple_at (N.get (List.mem_append_right _ (.head _))) rfl rfl (reads_ints r1.toInts)) (reads_tuple_at (N.get hmb) rfl rfl (reads_ints r2.toInts)) (lay_ints _) (lay_ints _) hu ?_
              rw [eqv_ints]
              exact k _ (by simpa using hP)
      · rcases hm with ⟨vs, ws, e1, e2, he, z1, z2, hP⟩ | ⟨xs, ys, e1, e2, hP⟩
        · obtain ⟨its, hl, r1⟩ := R.isList e1
          obtain ⟨jts, hk, r2⟩ := R.isList e2
          have y1 := r1.length
          have y2 := r2.length
          by_cases q : vs.length = ws.length
          · have hvs : vs = [] := by
              rcases he with h | h
              · exact h
              · rw [h] at q; exact List.length_eq_zero_iff.mp q
            have hi : its = [] := List.length_eq_zero_iff.mp (by rw [y1, hvs]; rfl)
            have hj : jts = [] := List.length_eq_zero_iff.mp (by rw [y2, ← q, hvs]; rfl)
            subst hi hj
            rw [decide_eq_true q] at hP
            exact SeqAt.RcNeAt.lists (e := fun _ => false) hl hk rfl hu1 (fun j h1 => by simp at h1) V.prog V.w E Q (k _ (by simpa using hP))
          · rw [decide_eq_false q] at hP
            exact SeqAt.RcNeAt.lists_lengths hl hk (by simp [y1, y2, q]) hu1 V.prog V.w E Q (k _ hP)
        · obtain ⟨co, pre, post, hr, N, _, _, hH, _⟩ := R.split e1
          obtain ⟨cb, hmb, hrb⟩ := hH _ _ e2
          cases hr with
          | tup r1 =>
            cases hrb with
            | tup r2 =>
              refine ne_dataH (reads_tuple_at (N.get (List.mem_append_right _ (.head _))) rfl rfl (reads_ints r1.toInts)) (reads_tuple_at (N.get hmb) rfl rfl (reads_ints r2.toInts)) (lay_ints _) (lay_ints _) hu ?_
              rw [eqv_ints]
              exact k _ (by simpa using hP)
    | none =>
      cases op <;> try exact hm.elim
      exact is_ref_none (k _ hm)
    | _ => exact hm.elim
  | none =>
    cases rb with
    | none =>
      cases op <;> try exact hm.elim
      exact wpAny_is_self rfl (k _ hm)
    | _ => exact hm.elim
  | _ => exact hm.elim
theorem FC.units {lv : Nat} (C : FC V (lv + 7) nm sc) : C.A.units + 64 < cLine := by have := C.hu; omega

theorem sim_cmp {l r : Expr} {op : CmpOp} {pos : Pos} {m₁ m₂ : ME} (h₁ : SimE V (lv + 7) nm sc nz (eval l) m₁) (h₂ : SimE V (lv + 7) nm sc nz (eval r) m₂) (hb : behindInMarks op r = false) :
    SimE V (lv + 7) nm sc nz (eval (.Compare l [op] [r] pos)) (mCmp op m₁ m₂) := by
  intro C ρ H P hm s ex mm Q E F LR R k
  refine wpAny_Compare1 (h₁ C ρ H _ hm s ex mm _ E F LR R fun va a H₁ h₁' tk₁ ra hm₁ F₁ R₁ => ?_) hb
  refine h₂ C ρ H₁ _ hm₁ _ ex mm _ E F₁ LR R₁ fun vb b H₂ h₂' tk₂ rb hm₂ F₂ R₂ => ?_
  exact cmpS_ok C.units ra rb R₂ hm₂ fun c hc => k _ _ H₂ h₂' tk₂ (.bool _) hc F₂ R₂
/-- a test -/
noncomputable abbrev SimC (V : Wd) (lv : Nat) (nm : Str) (sc : Scope) (nz : List Str) (e : Expr) (m : MT) : Prop := SimT V lv nm sc nz (fun env => isTrue e env (eval e env)) m
theorem simc_cmp {l r : Expr} {op : CmpOp} {pos : Pos} {m₁ m₂ : ME} (h₁ : SimE V (lv + 7) nm sc nz (eval l) m₁) (h₂ : SimE V (lv + 7) nm sc nz (eval r) m₂) (hb : behindInMarks op r = false) :
    SimC V (lv + 7) nm sc nz (.Compare l [op] [r] pos) (tCmp op m₁ m₂) := by
  intro C ρ H P hm s ex mm Q E F LR R k
  refine wpAny_isTrue_Compare1 (h₁ C ρ H _ hm s ex mm _ E F LR R fun va a H₁ h₁' tk₁ ra hm₁ F₁ R₁ => ?_) hb
  refine h₂ C ρ H₁ _ hm₁ _ ex mm _ E F₁ LR R₁ fun vb b H₂ h₂' tk₂ rb hm₂ F₂ R₂ => ?_
  exact cmpS_ok C.units ra rb R₂ hm₂ fun c hc => wpAny_truthy_bool (k _ _ H₂ h₂' tk₂ rfl hc F₂ R₂)
theorem simc_chain {l r₁ r₂ : Expr} {op₁ op₂ : CmpOp} {pos : Pos} {m₁ m₂ m₃ : ME} (h₁ : SimE V (lv + 7) nm sc nz (eval l) m₁) (h₂ : SimE V (lv + 7) nm sc nz (eval r₁) m₂) (h₃ : SimE V (lv + 7) nm sc nz (eval r₂) m₃) (hb : lastMarks [op₁, op₂] [r₁, r₂] = false) :
    SimC V (lv + 7) nm sc nz (.Compare l [op₁, op₂] [r₁, r₂] pos) (tChain op₁ op₂ m₁ m₂ m₃) := by
  intro C ρ H P hm s ex mm Q E F LR R k
  refine isTrue_chain (h₁ C ρ H _ hm s ex mm _ E F LR R fun va a H₁ h₁' tk₁ ra hm₁ F₁ R₁ => ?_) hb
  show wpAny _ _ (testChain pos va [op₁, op₂] [eval r₁ C.env, eval r₂ C.env]) _ _ _
  unfold testChain
  refine wpAny_bind (wpAny_holding (h₂ C ρ H₁ _ hm₁ _ ex mm _ E F₁ LR R₁ fun vb b H₂ h₂' tk₂ rb hm₂ F₂ R₂ => ?_))
  refine wpAny_bind (wpAny_standAt (wpAny_bind (wpAny_holding ?_)))
  refine cmpS_ok C.units ra rb R₂ hm₂ fun c hc => ?_
  refine wpAny_bind (wpAny_release' (wpAny_bind (wpAny_holding (wpAny_truthy_bool ?_))))
  cases c with
  | false => exact wpAny_pure (k _ _ H₂ h₂' tk₂ rfl hc F₂ R₂)
  | true =>
    dsimp only at hc
    unfold testChain
    refine wpAny_bind (wpAny_holding (h₃ C ρ H₂ _ hc _ ex mm _ E F₂ LR R₂ fun vd d H₃ h₃' tk₃ rd hm₃ F₃ R₃ => ?_))
    refine wpAny_bind (wpAny_standAt (wpAny_bind (wpAny_operate' ?_)))
    refine cmpS_ok C.units rb rd R₃ hm₃ fun c hc => ?_
    exact wpAny_holding (wpAny_truthy_bool (k _ _ H₃ h₃' tk₃ rfl hc F₃ R₃))
theorem truthS_ok {v : Value} {av : AV} {P : Bool → Prop} {M : Model} {prog : Program} {w : World} {A : Around} {s : Shared} {Q : Bool → Shared → Prop} {E : Value → Shared → Prop} (rv : VRep v av) (hm : truthS av P) (k : ∀ b, P b → Q b s) : wpAny (model prog w) A (truthy v) Q E s := by
  unfold truthS at hm
  cases rv with
  | bool b => exact wpAny_truthy_bool (k _ hm)
  | int i t => exact PyProof.Rows.truthy_int (k _ hm)
  | _ => exact hm.elim
theorem simc_val {e : Expr} {m : ME} (h : SimE V lv nm sc nz (eval e) m) (he : ∀ env whole, isTrue e env whole = (do let v ← whole; standAt e.pos; holding [v] (truthy v))) : SimC V lv nm sc nz e (tVal m) := by
  intro C ρ H P hm s ex mm Q E F LR R k
  refine isTrue_plain (h C ρ H _ hm s ex mm _ E F LR R fun v av H₁ h₁' tk₁ rv hm₁ F₁ R₁ => ?_) (he _ _)
  exact truthS_ok (M := model V.prog V.w) rv hm₁ fun b hb => k _ _ H₁ h₁' tk₁ rfl hb F₁ R₁
theorem simc_not {x : Expr} {pos : Pos} {m : MT} (h : SimC V lv nm sc nz x m) : SimC V lv nm sc nz (.UnaryOp .Not x pos) (tNot m) := by
  intro C ρ H P hm s ex mm Q E F LR R k
  refine isTrue_not (h C ρ H _ hm s ex mm _ E F LR R fun v av H₁ h₁' tk₁ rv hm₁ F₁ R₁ => ?_)
  subst rv
  exact k _ _ H₁ h₁' tk₁ rfl hm₁ F₁ R₁
theorem isTrue_bo (op : BoolOp) (vs : List Expr) (pos : Pos) (env : Env) (whole whole' : Sem Value) : isTrue (.BoolOp op vs pos) env whole = isTrue (.BoolOp op vs pos) env whole' := rfl
theorem simc_and_nil {pos : Pos} : SimC V lv nm sc nz (.BoolOp .And [] pos) (fun _ H P => P true H) := by
  intro C ρ H P hm s ex mm Q E F LR R k
  exact isTrue_and_nil (k _ _ H s.heap s.toks rfl hm F R)
theorem simc_or_nil {pos : Pos} : SimC V lv nm sc nz (.BoolOp .Or [] pos) (fun _ H P => P false H) := by
  intro C ρ H P hm s ex mm Q E F LR R k
  exact isTrue_or_nil (k _ _ H s.heap s.toks rfl hm F R)
theorem simc_and {x : Expr} {rest : List Expr} {pos : Pos} {m₁ m₂ : MT} (h₁ : SimC V lv nm sc nz x m₁) (h₂ : SimC V lv nm sc nz (.BoolOp .And rest pos) m₂) : SimC V lv nm sc nz (.BoolOp .And (x :: rest) pos) (tAnd m₁ m₂) := by
  intro C ρ H P hm s ex mm Q E F LR R k
  refine isTrue_and (h₁ C ρ H _ hm s ex mm _ E F LR R fun v av H₁ h₁' tk₁ rv hm₁ F₁ R₁ => ?_)
  subst rv
  cases v with
  | false => exact k _ _ H₁ h₁' tk₁ rfl hm₁ F₁ R₁
  | true =>
    rw [if_pos rfl, isTrue_bo _ _ _ _ _ (eval (.BoolOp .And rest pos) C.env)]
    exact h₂ C ρ H₁ _ hm₁ _ ex mm _ E F₁ LR R₁ k
theorem simc_or {x : Expr} {rest : List Expr} {pos : Pos} {m₁ m₂ : MT} (h₁ : SimC V lv nm sc nz x m₁) (h₂ : SimC V lv nm sc nz (.BoolOp .Or rest pos) m₂) : SimC V lv nm sc nz (.BoolOp .Or (x :: rest) pos) (tOr m₁ m₂) := by
  intro C ρ H P hm s ex mm Q E F LR R k
  refine isTrue_or (h₁ C ρ H _ hm s ex mm _ E F LR R fun v av H₁ h₁' tk₁ rv hm₁ F₁ R₁ => ?_)
  subst rv
  cases v with
  | true => exact k _ _ H₁ h₁' tk₁ rfl hm₁ F₁ R₁
  | false =>
    rw [if_neg Bool.false_ne_true, isTrue_bo _ _ _ _ _ (eval (.BoolOp .Or rest pos) C.env)]
    exact h₂ C ρ H₁ _ hm₁ _ ex mm _ E F₁ LR R₁ k
theorem sim_or {x y : Expr} {pos : Pos} {m₁ m₂ : ME} (h₁ : SimE V lv nm sc nz (eval x) m₁) (h₂ : SimE V lv nm sc nz (eval y) m₂) : SimE V lv nm sc nz (eval (.BoolOp .Or [x, y] pos)) (mOr m₁ m₂) := by
  intro C ρ H P hm s ex mm Q E F LR R k
  show wpAny _ _ (boolOp pos .Or [eval x C.env, eval y C.env]) _ _ _
  unfold boolOp
  refine wpAny_bind (h₁ C ρ H _ hm s ex mm _ E F LR R fun v av H₁ h₁' tk₁ rv hm₁ F₁ R₁ => ?_)
  refine wpAny_bind (wpAny_standAt (wpAny_bind (wpAny_holding (truthS_ok (M := model V.prog V.w) rv hm₁ fun b hb => ?_))))
  cases b with
  | true => exact wpAny_pure (k _ _ H₁ h₁' tk₁ rv hb F₁ R₁)
  | false =>
    show wpAny _ _ (boolOp pos .Or [eval y C.env]) _ _ _
    exact h₂ C ρ H₁ _ hb _ ex mm _ E F₁ LR R₁ k
theorem sim_if {test x y : Expr} {pos : Pos} {t : MT} {m₁ m₂ : ME} (ht : SimC V lv nm sc nz test t) (h₁ : SimE V lv nm sc nz (eval x) m₁) (h₂ : SimE V lv nm sc nz (eval y) m₂) : SimE V lv nm sc nz (eval (.IfExp test x y pos)) (mIf t m₁ m₂) := by
  intro C ρ H P hm s ex mm Q E F LR R k
  refine wpAny_IfExp (ht C ρ H _ hm s ex mm _ E F LR R fun v av H₁ h₁' tk₁ rv hm₁ F₁ R₁ => ?_)
  subst rv
  cases v with
  | true => exact h₁ C ρ H₁ _ hm₁ _ ex mm _ E F₁ LR R₁ k
  | false => exact h₂ C ρ H₁ _ hm₁ _ ex mm _ E F₁ LR R₁ k

/-! several values -/
noncomputable abbrev SimL (V : Wd) (lv : Nat) (nm : Str) (sc : Scope) (nz : List Str) (pos : Pos) (es : List Expr) (m : MA) : Prop := SimA V lv nm sc nz (fun env => spliced (backTo pos (starEach es env))) m
theorem siml_nil {pos : Pos} : SimL V lv nm sc nz pos [] aNil := by
  intro C ρ H P hm s ex mm Q E F LR R k
  exact spliced_none (k _ _ H s.heap s.toks .nil hm F R)
theorem siml_cons {pos : Pos} {e : Expr} {es : List Expr} {m : ME} {ms : MA} (h : SimE V lv nm sc nz (eval e) m) (hs : SimL V lv nm sc nz pos es ms) (he : ∀ env, starEach (e :: es) env = (false, eval e env) :: starEach es env) : SimL V lv nm sc nz pos (e :: es) (aCons m ms) := by
  intro C ρ H P hm s ex mm Q E F LR R k
  refine spliced_more (h C ρ H _ hm s ex mm _ E F LR R fun v av H₁ h₁' tk₁ rv hm₁ F₁ R₁ => ?_) (he _)
  exact hs C ρ H₁ _ hm₁ _ ex mm _ E F₁ LR R₁ fun vs avs H₂ h₂' tk₂ rvs hm₂ F₂ R₂ => k _ _ H₂ h₂' tk₂ (.cons rv rvs) hm₂ F₂ R₂
theorem sim_tup {es : List Expr} {n : Nat} {pos : Pos} {ms : MA} (h : SimL V lv nm sc nz pos es ms) : SimE V lv nm sc nz (eval (.Tuple es n pos)) (mTup ms) := by
  intro C ρ H P hm s ex mm Q E F LR R k
  refine Tuple_ (h C ρ H _ hm s ex mm _ E F LR R fun vs avs H₁ h₁' tk₁ rvs hm₁ F₁ R₁ => ?_)
  obtain ⟨hz, hP⟩ := hm₁
  obtain ⟨R', hn⟩ := RepN.pushNew F₁ R₁ (o := tupOf vs.toArray 0) (.tup rvs)
  exact wpAny_newObj_type (k _ _ _ _ _ (.ref _) (hP _ hn) (F₁.push _) R') (by show vs.toArray.size ≤ sizeLine; rw [List.size_toArray, rvs.length, sizeLine_eq]; omega)
theorem sim_list {es : List Expr} {pos : Pos} {ms : MA} (h : SimL V lv nm sc nz pos es ms) : SimE V lv nm sc nz (eval (.List es pos)) (mList ms) := by
  intro C ρ H P hm s ex mm Q E F LR R k
  refine List_ (h C ρ H _ hm s ex mm _ E F LR R fun vs avs H₁ h₁' tk₁ rvs hm₁ F₁ R₁ => ?_)
  obtain ⟨hz, hP⟩ := hm₁
  obtain ⟨R', hn⟩ := RepN.pushNew F₁ R₁ (o := listOf vs.toArray 0) (.list rvs)
  exact wpAny_newObj_type (k _ _ _ _ _ (.ref _) (hP _ hn) (F₁.push _) R') (by show vs.toArray.size ≤ sizeLine; rw [List.size_toArray, rvs.length, sizeLine_eq]; omega)

theorem subscripted_ops (slice : Expr) (o i : Value) : ∃ ops, subscripted slice false o i = operate ops (getItem o i) := by
  unfold subscripted
  split
  · exact ⟨_, rfl⟩
  · rename_i h; cases h
  · exact ⟨_, rfl⟩
/-- an item -/
theorem getItem_ok {C : FC V lv nm sc} {o i : Value} {ao ai : AV} {H : AHeap} {P : AV → AHeap → Prop} {s : Shared} {ex : List (Addr × Obj)} {Q : Value → Shared → Prop} {E : Value → Shared → Prop}
    (ro : VRep o ao) (ri : VRep i ai) (R : RepN C.h₀ C.L s.heap ex H) (hm : subS ao ai H P) (k : ∀ v av, VRep v av → P av H → Q v s) :
    wpAny (model V.prog V.w) C.A (getItem o i) Q E s ∧ ∃ T id, s.TypeIs o T ∧ typeLookup (.type T) "__getitem__" = pure (some (.builtin id)) := by
  unfold subS at hm
  cases ro with
  | ref l =>
    cases ri with
    | int j t =>
      obtain ⟨vs, av, hl, h0, hlo, hhi, hx, hP⟩ := hm
      rcases hl with hl | hl
      · obtain ⟨its, hL, rv⟩ := R.isList hl
        have hlen := rv.length
        obtain ⟨v, hv, r⟩ := rv.get hx
        refine ⟨?_, _, _, hL.typeIs, slot_list_getitem.lookup⟩
        by_cases q : j < 0
        · unfold idxOf at hx h0 hv
          rw [if_pos q] at hx h0 hv
          exact wpAny_getItem_list_neg hL q (by rw [List.size_toArray, hlen]; omega) (by omega) (by rw [List.size_toArray, hlen]; simpa using hv) (k _ _ r hP)
        · unfold idxOf at hx h0 hv
          rw [if_neg q] at hx h0 hv
          exact wpAny_getItem_list hL h0 (by omega) (by simpa using hv) (k _ _ r hP)
      · obtain ⟨its, hL, rv⟩ := R.isTup hl
        have hlen := rv.length
        obtain ⟨v, hv, r⟩ := rv.get hx
        refine ⟨?_, _, _, hL.typeIs, slot_tuple_getitem.lookup⟩
        refine PyProof.Rows.getItem_tuple (j := (idxOf vs.length j).toNat) hL (by omega) (by omega) ?_ (by simpa using hv) (k _ _ r hP)
        have hb : (idxOf vs.length j).toNat < vs.length := (List.getElem?_eq_some_iff.mp hx).1
        unfold seqIndex?
        rw [List.size_toArray, hlen]
        unfold idxOf at h0 hb ⊢
        by_cases q : j < 0
        · simp only [if_pos q] at h0 hb ⊢
          rw [if_pos (by simp; omega)]
        · simp only [if_neg q] at h0 hb ⊢
          rw [if_pos (by simp; omega)]
    | _ => exact hm.elim
  | _ => exact hm.elim
theorem sim_sub {value slice : Expr} {pos : Pos} {m₁ m₂ : ME} (h₁ : SimE V lv nm sc nz (eval value) m₁) (h₂ : SimE V lv nm sc nz (eval slice) m₂) : SimE V lv nm sc nz (eval (.Subscript value slice pos)) (mSub m₁ m₂) := by
  intro C ρ H P hm s ex mm Q E F LR R k
  refine Subscript_ (h₁ C ρ H _ hm s ex mm _ E F LR R fun o ao H₁ h₁' tk₁ ro hm₁ F₁ R₁ => ?_)
  refine h₂ C ρ H₁ _ hm₁ _ ex mm _ E F₁ LR R₁ fun i ai H₂ h₂' tk₂ ri hm₂ F₂ R₂ => ?_
  obtain ⟨hg, T, id, hT, hl⟩ := getItem_ok (C := C) (Q := Q) (E := E) ro ri R₂ hm₂ fun v av r hP => k _ _ H₂ h₂' tk₂ r hP F₂ R₂
  obtain ⟨ops, hs⟩ := subscripted_ops slice o i
  exact tail_any hT hl hg hs
theorem pickL_rep {its : List Value} {vs : List AV} (r : VReps its vs) (lo hi : Option Int) : slicePick its.toArray lo hi none = ((its.drop (lo.elim 0 (clipAt vs.length))).take (hi.elim vs.length (clipAt vs.length) - lo.elim 0 (clipAt vs.length))).toArray ∧
    VReps ((its.drop (lo.elim 0 (clipAt vs.length))).take (hi.elim vs.length (clipAt vs.length) - lo.elim 0 (clipAt vs.length))) (pickL vs lo hi) := by
  refine ⟨?_, (r.drop _).take _⟩
  rw [slicePick_plain, List.size_toArray, r.length]
theorem partS_ok {v : Value} {av : AV} {P : Option Int → Prop} (r : VRep v av) (h : partS av P) : ∃ x, IsPart v x ∧ P x := by
  unfold partS at h
  cases r with
  | int i t => exact ⟨_, .int _ _, h⟩
  | none => exact ⟨_, .none, h⟩
  | _ => exact h.elim
theorem tail_slice {C : FC V lv nm sc} {value slice : Expr} {o l u : Value} {ao al au : AV} {H : AHeap} {P : AV → AHeap → Prop} {s : Shared} {ex : List (Addr × Obj)} {mm : Str → Option Value} {Q : Value → Shared → Prop} {E : Value → Shared → Prop}
    (ro : VRep o ao) (rl : VRep l al) (ru : VRep u au) (F : Fr C.h₀ C.L s.heap mm) (R : RepN C.h₀ C.L s.heap ex H)
    (hm : partS al fun x => partS au fun y => sliceS ao x y H P)
    (k : ∀ v av H' h' tk, VRep v av → P av H' → Fr C.h₀ C.L h' mm → RepN C.h₀ C.L h' ex H' → Q v { s with heap := h', toks := tk }) :
    wpAny (model V.prog V.w) C.A (newFields "slice" [l, u, .none]) (fun i s => wpAny (model V.prog V.w) C.A (subscriptTail value slice o i) Q E s) E s := by
  obtain ⟨x, hx, hm⟩ := partS_ok rl hm
  obtain ⟨y, hy, hm⟩ := partS_ok ru hm
  cases ro with
  | ref a =>
    obtain ⟨vs, hl, hz, hP⟩ := hm
    refine wpAny_newObj_type ?_
    have R₁ := R.push (o := { cls := .type "slice", data := .fields [l, u, Value.none].toArray })
    have F₁ := F.push { cls := .type "slice", data := .fields [l, u, Value.none].toArray }
    obtain ⟨its, hL, rv⟩ := R₁.isList hl
    obtain ⟨ops, hs⟩ := subscripted_ops slice (.ref a) (.ref s.heap.objs.size)
    obtain ⟨e, rp⟩ := pickL_rep rv x y
    refine tail_any (s := { s with heap := s.heap.push _ }) hL.typeIs list_getitem_lookup (wpAny_getItem_list_slice hL (Heap.IsSliceOf.new ..) hx hy .none (by simp) ?_ (by rw [List.size_toArray, rv.length, sizeLine_eq]; unfold LIM at hz; omega)) hs
    obtain ⟨R₂, hn⟩ := RepN.pushNew F₁ R₁ (o := listOf (slicePick its.toArray x y none) 0) (ao := .list (pickL vs x y)) (by rw [e]; exact .list rp)
    exact k _ _ _ _ s.toks (.ref _) (hP _ hn) (F₁.push _) R₂
  | _ => exact hm.elim
theorem valueOrNone_none (env : Env) : valueOrNone (evalOpt none env) = pure .none := rfl
theorem valueOrNone_some (e : Expr) (env : Env) : valueOrNone (evalOpt (some e) env) = eval e env := rfl
noncomputable def SimO (V : Wd) (lv : Nat) (nm : Str) (sc : Scope) (nz : List Str) (e : Option Expr) (m : ME) : Prop := SimE V lv nm sc nz (fun env => valueOrNone (evalOpt e env)) m
theorem simo_none : SimO V lv nm sc nz none (mConst .none) := by
  intro C ρ H P hm s ex mm Q E F LR R k
  exact wpAny_pure (k _ _ H s.heap s.toks .none hm F R)
theorem simo_some {e : Expr} {m : ME} (h : SimE V lv nm sc nz (eval e) m) : SimO V lv nm sc nz (some e) m := h
theorem sim_slice {value : Expr} {lo hi : Option Expr} {p pos : Pos} {m m₁ m₂ : ME} (h : SimE V lv nm sc nz (eval value) m) (h₁ : SimO V lv nm sc nz lo m₁) (h₂ : SimO V lv nm sc nz hi m₂) :
    SimE V lv nm sc nz (eval (.Subscript value (.Slice lo hi none p) pos)) (mSlice m m₁ m₂) := by
  intro C ρ H P hm s ex mm Q E F LR R k
  refine Subscript_ (h C ρ H _ hm s ex mm _ E F LR R fun o ao H₁ h₁' tk₁ ro hm₁ F₁ R₁ => ?_)
  rw [arm_eval_Slice]
  refine wpAny_bind (h₁ C ρ H₁ _ hm₁ _ ex mm _ E F₁ LR R₁ fun l al H₂ h₂' tk₂ rl hm₂ F₂ R₂ => ?_)
  refine wpAny_bind (wpAny_holding (h₂ C ρ H₂ _ hm₂ _ ex mm _ E F₂ LR R₂ fun u au H₃ h₃' tk₃ ru hm₃ F₃ R₃ => ?_))
  refine wpAny_bind (wpAny_holding (wpAny_pure ?_))
  exact tail_slice (C := C) (value := value) (slice := .Slice lo hi none p) (Q := Q) (E := E) (s := { s with heap := h₃', toks := tk₃ }) ro rl ru F₃ R₃ hm₃ fun v av H' h' tk r hP F' R' => k _ _ H' h' tk r hP F' R'
end
end
section
set_option genSizeOf false
set_option genSizeOfSpec false
set_option maxRecDepth 100000
noncomputable abbrev Spec := List AV → AHeap → (AV → AHeap → Prop) → Prop
/-- what a call of the def at f does -/
noncomputable def CallOk (V : Wd) (lv : Nat) (f : Addr) (S : Spec) : Prop :=
  ∀ (args : List AV) (H : AHeap) (P : AV → AHeap → Prop), S args H P →
    ∀ (A₀ A : Around) (env : Env) (outer : List Env) (h₀ : Heap) (L : Addr) (m : Str → Option Value) (s : Shared) (ex : List (Addr × Obj)) (vals : List Value) (R : Result → Shared → Prop),
      Below A₀ V.base outer h₀ → Fr h₀ L s.heap m → V.K.In h₀ → RepN h₀ L s.heap ex H → Top V.p V.loose V.mean V.mg V.mb h₀ → A.frames = some (env :: outer) → env.frame = some L → env.scope.kind = .function → A.handled = none →
      A.depth + (lv + 1) < recursionLimit → A.units + 10 * (lv + 1) < cLine → VReps vals args →
      (∀ v av H' h' tk, VRep v av → P av H' → Fr h₀ L h' m → RepN h₀ L h' ex H' → R (.ok (.ret v)) { s with heap := h', toks := tk }) →
      codeAny (model V.prog V.w) A (.call (.ref f) ⟨vals, []⟩) R s
theorem CallOk.mono {V : Wd} {lv lv' : Nat} {f : Addr} {S : Spec} (h : CallOk V lv f S) (hl : lv ≤ lv') : CallOk V lv' f S := by
  intro args H P hS A₀ A env outer h₀ L m s ex vals R B F X RN T hA hf hk hh hd hu rv k
  exact h args H P hS A₀ A env outer h₀ L m s ex vals R B F X RN T hA hf hk hh (by omega) (by omega) rv k

noncomputable def startLoc (args : List AV) (n : Nat) : Loc := args.map some ++ List.replicate n none
theorem zip_lookup : ∀ {ns : List Str} {vs : List Value} {i : Nat} {x : Str} {v : Value}, ns.Nodup → ns[i]? = some x → vs[i]? = some v → (ns.zip vs).reverse.lookup x = some v := by
  intro ns
  induction ns with
  | nil => intro vs i x v _ h; simp at h
  | cons n r ih =>
    intro vs i x v hd hx hv
    cases vs with
    | nil => simp at hv
    | cons w ws =>
      rw [List.nodup_cons] at hd
      rw [List.zip_cons_cons, List.reverse_cons, List.lookup_append]
      cases i with
      | zero =>
        simp at hx hv
        subst hx hv
        have : (r.zip ws).reverse.lookup n = none := by
          rw [List.lookup_eq_none_iff]
          intro p hp
          rw [List.mem_reverse] at hp
          have := (List.of_mem_zip hp).1
          simp only [bne_iff_ne, ne_eq]
          rintro rfl
          exact hd.1 this
        rw [this]; simp
      | succ i =>
        rw [ih hd.2 (by simpa using hx) (by simpa using hv)]; rfl

theorem callOk_def {V : Wd} {lv : Nat} (hcl : V.cl = []) {f : Addr} {S : Spec} {name qual : Str} {params : Arguments} {body : List Stmt} {scope : Scope} {dV kV doc pm cdv ct oc : Value} {an od : Option Addr} {osl : Array (Option Value)} {pn : List Str} {nz : List Str} {m : MS}
    (ho : V.K.lookup f = some ⟨oc, od, .func (fnOf name qual params body scope dV kV doc pm an cdv ct), osl⟩) (hcd : codeIn V.K cdv qual = true)
    (hbind : ∀ vals : List Value, vals.length = pn.length → bindArgs (fnOf name qual params body scope dV kV doc pm an cdv ct) ⟨vals, []⟩ = pure (pn.zip vals))
    (hloc : ∀ y ∈ pn, scope.names.lookup y = some .local) (hnd : pn.Nodup) (k : Nat) (hnz : nz.take pn.length = pn) (hk : nz.length = pn.length + k)
    (hsim : SimS V lv qual scope nz (execs body) m)
    (hS : ∀ args H P, S args H P → args.length = pn.length ∧ m (startLoc args k) H (fun fl _ H' => match fl with | .ret v => P v H' | .next => P .none H' | _ => False))
    (hco : scope.isCoroutine = false) (hgen : scope.isGenerator = false) (hkf : scope.kind = .function) (hcell : ∀ x ∈ scope.names, x.2 ≠ .cell) : CallOk V lv f S := by
  obtain ⟨Vp, Vw, VK, Vpp, Vl, Vm, Vmg, Vmb, Vb, Vcl⟩ := V
  simp only at hcl
  subst hcl
  intro args H P hs A₀ A env outer h₀ L mm s ex vals R B F X RN T hA hf hke hh hd hu rv kk
  obtain ⟨hlen, hm⟩ := hS args H P hs
  have hvl : vals.length = pn.length := rv.length.trans hlen
  obtain ⟨news, N, hnd', hH, hx⟩ := RN
  refine code_def (B := B) (F := F) X N T hA hf hke ho hcd (by omega) (BindsTo.of_eq (hbind vals hvl)) ?_ ?_ hco hgen hkf hcell
  · intro y hy
    exact hloc _ (List.of_mem_zip hy).1
  · intro g L' h₁ F₀ F₁ N₁ B₁ X₁ T₁
    let C : FC ⟨Vp, Vw, VK, Vpp, Vl, Vm, Vmg, Vmb, Vb, []⟩ lv qual scope := { L := L', a := f, cd := cdv, A := A.deeper (envOf qual scope L' f cdv), A₀ := A, outer := env :: outer, h₀ := g, B := B₁, X := X₁, T := T₁, hA := Around.frames_deeper hA, hh := hh, hd := by show A.depth + 1 + lv < _; omega, hu := by show A.units + 3 + 10 * lv < _; omega }
    refine hsim C (startLoc args k) H _ hm { s with heap := h₁, toks := s.toks + (pn.zip vals).length } ex (fun y => (pn.zip vals).reverse.lookup y) _ _ F₁ ?_ ⟨news, N₁, hnd', hH, hx⟩ ?_
    · refine ⟨by unfold startLoc; rw [List.length_append, List.length_map, List.length_replicate, hlen, hk], fun i x v hi hv => ?_⟩
      unfold startLoc at hv
      by_cases q : i < args.length
      · rw [List.getElem?_append_left (by simpa using q), List.getElem?_map] at hv
        have ha : args[i]? = some v := by
          cases e : args[i]? with
          | none => rw [e] at hv; cases hv
          | some w => rw [e] at hv; cases hv; rfl
        obtain ⟨cv, h1, h2⟩ := rv.get ha
        refine ⟨cv, zip_lookup hnd ?_ h1, h2⟩
        have : (nz.take pn.length)[i]? = some x := by rw [List.getElem?_take_of_lt (by omega)]; exact hi
        rw [hnz] at this
        exact this
      · rw [List.getElem?_append_right (by simpa using q)] at hv
        rw [List.getElem?_replicate] at hv
        split at hv <;> cases hv
    · intro fl afl ρ' H' h' tk mm' rf hP F' LR' R'
      obtain ⟨news', N', hnd2, hH', hx'⟩ := R'
      have fin : ∀ v av, VRep v av → P av H' → LeaveK h₀ L mm g R v { s with heap := h', toks := tk } := fun v av r hp =>
        leaveK_ (s' := { s with heap := h', toks := tk }) F' N' fun F₂ N₂ => kk v av H' h' tk r hp F₂ ⟨news', N₂, hnd2, hH', hx'⟩
      cases rf with
      | next => exact fin _ _ .none hP
      | brk => exact hP.elim
      | cont => exact hP.elim
      | ret r => exact fin _ _ r hP

/-! attributes -/
noncomputable def attrOk (K : Frag) (C : Addr) (n : Str) : Bool := plainGet K C n && hasDictIn K C && (match findIn K (.ref C) n with
  | some none => true
  | _ => false)
theorem attrOk_of {K : Frag} {C : Addr} {n : Str} (h : attrOk K C n = true) : plainGet K C n = true ∧ hasDictIn K C = true ∧ findIn K (.ref C) n = some none := by
  unfold attrOk at h
  simp only [Bool.and_eq_true] at h
  refine ⟨h.1.1, h.1.2, ?_⟩
  have h2 := h.2
  split at h2
  · assumption
  · cases h2
noncomputable def attrS (C : Addr) (n : Str) (o : AV) (H : AHeap) (P : AV → AHeap → Prop) : Prop := match o with
  | .ref x => ∃ dx fs v, H x = some (.inst C dx) ∧ H dx = some (.attrs fs) ∧ getA n fs = some v ∧ P v H
  | _ => False
noncomputable def mAttr (C : Addr) (n : Str) (m : ME) : ME := fun ρ H P => m ρ H fun o H => attrS C n o H P
theorem handedIn_rep {v : Value} {av : AV} (r : VRep v av) : handedIn v = true := by cases r <;> rfl

section
variable {V : Wd} {lv : Nat} {nm : Str} {sc : Scope} {nz : List Str}
theorem instAt_of {C : FC V lv nm sc} {s : Shared} {ex : List (Addr × Obj)} {H : AHeap} {x dx cls : Addr} {fs : List (Str × AV)} (R : RepN C.h₀ C.L s.heap ex H) (h1 : H x = some (.inst cls dx)) (h2 : H dx = some (.attrs fs)) :
    ∃ es n, InstAt s.heap x (instObj cls dx) cls (some (dictOf es n)) ∧ ARep es fs := by
  obtain ⟨co, g1, r1⟩ := R.get h1
  obtain ⟨cd, g2, r2⟩ := R.get h2
  cases r1 with
  | inst =>
    cases r2 with
    | @attrs es n _ ha => exact ⟨es, n, ⟨g1, rfl, rfl, g2⟩, ha⟩
theorem sim_attr {value : Expr} {n : Str} {pos : Pos} {cls : Addr} {m : ME} (h : SimE V lv nm sc nz (eval value) m) (hok : attrOk V.K cls n = true)
    (he : ∀ env, eval (.Attribute value n pos) env = (do
      let o ← eval value env
      standAt pos.atName
      let r ← holding [o] (getAttr o n true)
      letTemporaryGo value o r
      pure r)) : SimE V lv nm sc nz (eval (.Attribute value n pos)) (mAttr cls n m) := by
  intro C ρ H P hm s ex mm Q E F LR R k
  refine Attribute_any_ (h C ρ H _ hm s ex mm _ E F LR R fun o ao H₁ h₁' tk₁ ro hm₁ F₁ R₁ => ?_) (he _)
  unfold attrS at hm₁
  cases ro with
  | ref x =>
    obtain ⟨dx, fs, v, e1, e2, e3, hP⟩ := hm₁
    obtain ⟨es, n', I, ha⟩ := instAt_of (C := C) (s := { s with heap := h₁', toks := tk₁ }) R₁ e1 e2
    obtain ⟨cv, hl, rv⟩ := ha.getL_some e3
    obtain ⟨a1, a2, a3⟩ := attrOk_of hok
    exact get_own (s := { s with heap := h₁', toks := tk₁ }) F₁ C.X I a1 a2 a3 rfl hl (handedIn_rep rv) (k _ _ H₁ h₁' _ rv hP F₁ R₁)
  | _ => exact hm₁.elim

/-! calls of the text's defs -/
noncomputable def mCall (S : Spec) (ms : MA) : ME := fun ρ H P => ms ρ H fun vs H => S vs H P
theorem call_ok {C : FC V (lv + 1) nm sc} {f : Addr} {S : Spec} (hc : CallOk V lv f S) {vals : List Value} {args : List AV} {H : AHeap} {P : AV → AHeap → Prop} {s : Shared} {ex : List (Addr × Obj)} {mm : Str → Option Value} {Q : Value → Shared → Prop} {E : Value → Shared → Prop}
    (hS : S args H P) (rv : VReps vals args) (F : Fr C.h₀ C.L s.heap mm) (R : RepN C.h₀ C.L s.heap ex H)
    (k : ∀ v av H' h' tk, VRep v av → P av H' → Fr C.h₀ C.L h' mm → RepN C.h₀ C.L h' ex H' → Q v { s with heap := h', toks := tk }) (hk : sc.kind = .function) :
    wpAny (model V.prog V.w) C.A (call (.ref f) vals) Q E s := by
  have hd := C.hd
  have hu := C.hu
  exact wpAny_call (hc args H P hS C.A₀ C.A C.env C.outer C.h₀ C.L mm s ex vals _ C.B F C.X R C.T C.hA rfl hk C.hh (by omega) (by omega) rv fun v av H' h' tk r hP F' R' => k v av H' h' tk r hP F' R')
theorem evalArgs_any {M : Model} {A : Around} {E : Value → Shared → Prop} {s : Shared} {f : Value} {trees : List (Bool × Sem Value)} {Q : Args → Shared → Prop} (hp : trees.any (·.1) = false)
    (h : wpAny M A (spliced trees) (fun vs s' => Q ⟨vs, []⟩ s') E s) : wpAny M A (evalArgs f true trees []) Q E s := by
  cases trees with
  | nil =>
    unfold evalArgs
    show wpAny M A (spliced [] >>= _) Q E s
    refine wpAny_bind (wpAny_mono h (fun vs s' h' => ?_) fun _ _ x => x)
    refine wpAny_holding ?_
    exact wpAny_bind (wpAny_pure (wpAny_bind (wpAny_pure (wpAny_pure h'))))
  | cons t ts =>
    obtain ⟨b1, t1⟩ := t
    have ht : b1 = false := by
      rw [List.any_cons, Bool.or_eq_false_iff] at hp
      exact hp.1
    subst ht
    exact Calls.evalArgs_plain h
/-- the args, then the call -/
theorem callWith_sim {C : FC V (lv + 1) nm sc} {f : Addr} {first : List Value} {afirst : List AV} {es : List Expr} {pos : Pos} {ms : MA} {S : Spec} (hc : CallOk V lv f S) (hkp : keepIn V.K (.ref f) = true) (hs : SimL V (lv + 1) nm sc nz pos es ms) (hk : sc.kind = .function)
    (hstar : ∀ env, (starEach es env).any (·.1) = false) {ρ : Loc} {H : AHeap} {P : AV → AHeap → Prop} {s : Shared} {ex : List (Addr × Obj)} {mm : Str → Option Value} {Q : Value → Shared → Prop} {E : Value → Shared → Prop}
    (rf : VReps first afirst) (hm : ms ρ H fun vs H => S (afirst ++ vs) H P) (F : Fr C.h₀ C.L s.heap mm) (LR : LocR nz mm ρ) (R : RepN C.h₀ C.L s.heap ex H)
    (k : ∀ v av H' h' tk, VRep v av → P av H' → Fr C.h₀ C.L h' mm → RepN C.h₀ C.L h' ex H' → Q v { s with heap := h', toks := tk }) :
    wpAny (model V.prog V.w) C.A (callWith pos (.ref f) first (backTo pos (starEach es C.env)) []) Q E s := by
  have hplain : (backTo pos (starEach es C.env)).any (·.1) = false := by
    have : (backTo pos (starEach es C.env)).any (·.1) = (starEach es C.env).any (·.1) := by
      unfold backTo
      rw [List.any_map]
      rfl
    rw [this]; exact hstar _
  refine callWith_of (by rw [hplain]; rfl) (keeps_K hkp) ?_
  exact evalArgs_any hplain (hs C ρ H _ hm s ex mm _ E F LR R fun vs avs H₁ h₁ tk₁ rvs hm₁ F₁ R₁ => ⟨C.X.keeps F₁.keep, call_ok hc hm₁ (rf.append rvs) F₁ R₁ (fun v av H' h' tk r hP F' R' => k v av H' h' tk r hP F' R') hk⟩)
theorem sim_call {x : Str} {npos pos : Pos} {es : List Expr} {ms : MA} {S : Spec} {f : Addr} (hc : CallOk V lv f S) (hg : nsIn V.K mainGlobals x = some (some (.ref f))) (hkp : keepIn V.K (.ref f) = true) (hs : SimL V (lv + 1) nm sc nz pos es ms)
    (hk : sc.kind = .function) (hl : ∀ L a cd, (envOf nm sc L a cd).kindOf x = some .globalImplicit) (hd : (x == ("__debug__" : Str)) = false) (hstar : ∀ env, (starEach es env).any (·.1) = false) :
    SimE V (lv + 1) nm sc nz (eval (.Call (.Name x npos) es [] pos)) (mCall S ms) := by
  intro C ρ H P hm s ex mm Q E F LR R k
  refine Call_ (nameX_K F C.X (topRead_of C.T) hg ?_ hk (hl C.L C.a C.cd) hd)
  exact callWith_sim hc hkp hs hk hstar .nil hm F LR R k

/-! methods of the text's classes -/
structure MethOk (K : Frag) (C : Addr) (n : Str) (f : Addr) : Prop where
  plain : plainGet K C n = true
  find : findIn K (.ref C) n = some (some (.ref f))
  fn : isFn K (.ref f) = true
  keep : keepIn K (.ref f) = true
noncomputable def mMeth (C : Addr) (n : Str) (S : Spec) (m : ME) (ms : MA) : ME := fun ρ H P => m ρ H fun o H => match o with
  | .ref x => ∃ dx fs, H x = some (.inst C dx) ∧ H dx = some (.attrs fs) ∧ getA n fs = none ∧ ms ρ H fun vs H => S (.ref x :: vs) H P
  | _ => False
theorem sim_meth {o : Expr} {n : Str} {apos pos : Pos} {es : List Expr} {m : ME} {ms : MA} {S : Spec} {cls f : Addr} (ho : SimE V (lv + 1) nm sc nz (eval o) m) (hc : CallOk V lv f S) (hm : MethOk V.K cls n f) (hs : SimL V (lv + 1) nm sc nz pos es ms)
    (hk : sc.kind = .function) (hstar : ∀ env, (starEach es env).any (·.1) = false)
    (he : ∀ env, ∃ pl, eval (.Call (.Attribute o n apos) es [] pos) env = (do
      let ov ← eval o env
      standAt apos.atName
      let (f, first) ← holding [ov] (getMethod ov n pl)
      callWith pos f first (backTo pos (starEach es env)) [])) :
    SimE V (lv + 1) nm sc nz (eval (.Call (.Attribute o n apos) es [] pos)) (mMeth cls n S m ms) := by
  intro C ρ H P hmm s ex mm Q E F LR R k
  obtain ⟨pl, he⟩ := he C.env
  refine MethodCall_ (pl := pl) (ho C ρ H _ hmm s ex mm _ E F LR R fun v av H₁ h₁' tk₁ ro hm₁ F₁ R₁ => ?_) he
  cases ro with
  | ref x =>
    obtain ⟨dx, fs, e1, e2, e3, hP⟩ := hm₁
    obtain ⟨es', n', I, ha⟩ := instAt_of (C := C) (s := { s with heap := h₁', toks := tk₁ }) R₁ e1 e2
    refine method_inst (s := { s with heap := h₁', toks := tk₁ }) F₁ C.X I hm.plain hm.find hm.fn (ha.getL_none e3) ?_
    exact callWith_sim hc hm.keep hs hk hstar (.cons (.ref x) .nil) hP F₁ LR R₁ fun v av H' h' tk r hP F' R' => k v av H' h' tk r hP F' R'
  | _ => exact hm₁.elim
end
end
section
set_option genSizeOf false
set_option genSizeOfSpec false
set_option maxRecDepth 100000
section
variable {V : Wd} {lv : Nat} {nm : Str} {sc : Scope} {nz : List Str}
/-! built-in functions and classes -/
noncomputable def BOk (V : Wd) (lv : Nat) (f : Value) (S : Spec) : Prop :=
  ∀ (nm : Str) (sc : Scope) (C : FC V lv nm sc) (args : List AV) (vals : List Value) (H : AHeap) (P : AV → AHeap → Prop), S args H P →
    ∀ (s : Shared) (ex : List (Addr × Obj)) (mm : Str → Option Value) (Q : Value → Shared → Prop) (E : Value → Shared → Prop), VReps vals args → Fr C.h₀ C.L s.heap mm → RepN C.h₀ C.L s.heap ex H →
      (∀ v av H' h' tk, VRep v av → P av H' → Fr C.h₀ C.L h' mm → RepN C.h₀ C.L h' ex H' → Q v { s with heap := h', toks := tk }) → wpAny (model V.prog V.w) C.A (call f vals) Q E s
theorem sim_bcall {x : Str} {npos pos : Pos} {es : List Expr} {e : Expr} {ms : MA} {S : Spec} {f : Value} (hc : BOk V lv f S) (hf : (∃ id, f = .builtin id) ∨ ∃ T, f = .type T) (hg : nsIn V.K mainGlobals x = some none) (hb : bootBuiltins x = some f) (hn : x ≠ "__name__")
    (hs : SimL V lv nm sc nz pos (e :: es) ms) (hk : sc.kind = .function) (hl : ∀ L a cd, (envOf nm sc L a cd).kindOf x = some .globalImplicit) (hd : (x == ("__debug__" : Str)) = false)
    (hstar : ∀ env, starEach (e :: es) env = (false, eval e env) :: starEach es env) (hplain : ∀ env, (backTo pos (starEach es env)).any (·.1) = false) :
    SimE V lv nm sc nz (eval (.Call (.Name x npos) (e :: es) [] pos)) (mCall S ms) := by
  intro C ρ H P hm s ex mm Q E F LR R k
  refine Call_ (nameX_B F C.X (topRead_of C.T) hg hb hn ?_ hk (hl C.L C.a C.cd) hd)
  have body : wpAny (model V.prog V.w) C.A (spliced (backTo pos (starEach (e :: es) C.env))) (fun vs s₁ => wpAny (model V.prog V.w) C.A (call f vs) Q E s₁) E s :=
    hs C ρ H _ hm s ex mm _ E F LR R fun vs avs H₁ h₁ tk₁ rvs hm₁ F₁ R₁ => hc nm sc C avs vs H₁ P hm₁ _ ex mm Q E rvs F₁ R₁ fun v av H' h' tk r hP F' R' => k v av H' h' tk r hP F' R'
  rcases hf with ⟨id, rfl⟩ | ⟨T, rfl⟩
  · exact callWith_builtin1 body (hstar _) (hplain _)
  · exact Pv.callWith_type1 body (hstar _) (hplain _)

noncomputable def lenS : Spec := fun args H P => match args with
  | [.ref l] => ∃ vs, H l = some (.list vs) ∧ vs.length ≤ LIM ∧ P (.int vs.length) H
  | [.bytes b] => b.length ≤ LIM ∧ P (.int b.length) H
  | _ => False
theorem bok_len : BOk V lv (.builtin "len") lenS := by
  intro nm sc C args vals H P hS s ex mm Q E rv F R k
  unfold lenS at hS
  split at hS
  · obtain ⟨vs, e, hz, hP⟩ := hS
    cases rv with | cons r rs =>
    cases rs
    cases r
    obtain ⟨its, hl, rr⟩ := R.isList e
    have hlen := rr.length
    refine Calls.call_len_list hl (by rw [List.size_toArray, hlen]; unfold LIM at hz; omega) ?_
    rw [List.size_toArray, hlen]
    exact k _ _ H _ _ (.int _ _) hP F R
  · cases rv with | cons r rs =>
    cases rs
    cases r with | bytes b t =>
    obtain ⟨hz, hP⟩ := hS
    refine PySem.W.len_bytes (by unfold LIM at hz; simpa using Nat.le_trans hz (by omega)) ?_
    have : b.size = b.toList.length := (Array.length_toList).symm
    rw [this]
    exact k _ _ H _ _ (.int _ _) hP F R
  · exact hS.elim
noncomputable def absS : Spec := fun args H P => match args with
  | [.int x] => P (.int (if x < 0 then -x else x)) H
  | _ => False
theorem bok_abs : BOk V lv (.builtin "abs") absS := by
  intro nm sc C args vals H P hS s ex mm Q E rv F R k
  unfold absS at hS
  split at hS
  · cases rv with | cons r rs =>
    cases rs
    cases r
    exact call_abs_int fun u tk => k _ _ H s.heap tk (.int _ _) hS F R
  · exact hS.elim
noncomputable def intS : Spec := fun args H P => match args with
  | [.int x] => P (.int x) H
  | [.bool b] => P (.int (if b then 1 else 0)) H
  | _ => False
theorem bok_int : BOk V lv (.type "int") intS := by
  intro nm sc C args vals H P hS s ex mm Q E rv F R k
  unfold intS at hS
  split at hS
  · cases rv with | cons r rs =>
    cases rs
    cases r
    exact PySem.call_int_int (k _ _ H s.heap s.toks (.int _ _) hS F R)
  · cases rv with | cons r rs =>
    cases rs
    cases r
    exact PySem.call_int_bool (k _ _ H s.heap _ (.int _ _) hS F R)
  · exact hS.elim
noncomputable def maxS : Spec := fun args H P => match args with
  | [.int a, .int b] => P (.int (if b > a then b else a)) H
  | _ => False
theorem bok_max : BOk V lv (.builtin "max") maxS := by
  intro nm sc C args vals H P hS s ex mm Q E rv F R k
  unfold maxS at hS
  split at hS
  · cases rv with | cons r rs =>
    cases rs with | cons r2 rs =>
    cases rs
    cases r
    cases r2
    refine max_two_ints C.hh fun h' tk hk => ?_
    have F' := F.grownK hk
    have R' := R.same fun a o e _ _ => hk a o e
    split
    · rename_i q; rw [if_pos q] at hS; exact k _ _ H h' tk (.int _ _) hS F' R'
    · rename_i q; rw [if_neg q] at hS; exact k _ _ H h' tk (.int _ _) hS F' R'
  · exact hS.elim
noncomputable def sumS : Spec := fun args H P => match args with
  | [.ref l] => ∃ xs, H l = some (.list (intsV xs)) ∧ P (.int xs.sum) H
  | _ => False
theorem intsAre_items : ∀ {vs : List Value} {xs : List Int}, IntsAre vs xs → ∃ ps : List (Int × Tok), vs = ps.map (fun p => Value.int p.1 p.2) ∧ ps.map (·.1) = xs
  | _, _, .nil => ⟨[], rfl, rfl⟩
  | _, _, .cons x t h => by
    obtain ⟨ps, e1, e2⟩ := intsAre_items h
    exact ⟨(x, t) :: ps, by simp [e1], by simp [e2]⟩
theorem bok_sum : BOk V lv (.builtin "sum") sumS := by
  intro nm sc C args vals H P hS s ex mm Q E rv F R k
  unfold sumS at hS
  split at hS
  · rename_i l
    obtain ⟨xs, e, hP⟩ := hS
    cases rv with | cons r rs =>
    cases rs
    cases r
    obtain ⟨its, hl, rr⟩ := R.isList e
    obtain ⟨ps, e1, e2⟩ := intsAre_items rr.toInts
    have hl' : s.heap.IsList l (intItems ps.toArray) := by
      have : intItems ps.toArray = its.toArray := by rw [e1]; unfold intItems; simp
      rw [this]; exact hl
    refine sum_intListG C.hh hl' fun h' tk t' hk => ?_
    have F' := F.grownK hk
    have R' := R.same fun a o e _ _ => hk a o e
    have hsum : preSum (numAt ps.toArray) ps.toArray.size = xs.sum := by
      rw [preSum_eq, List.take_of_length_le (by simp)]
      rw [← e2]
    rw [hsum]
    exact k _ _ H h' tk (.int _ _) hP F' R'
  · exact hS.elim
noncomputable def bytesS : Spec := fun args H P => match args with
  | [.ref l] => ∃ xs, H l = some (.list (intsV xs)) ∧ (∀ n ∈ xs, 0 ≤ n ∧ n < 256) ∧ xs.length ≤ 1000 ∧ P (.bytes (xs.map fun n => n.toNat.toUInt8)) H
  | _ => False
theorem bok_bytes : BOk V lv (.type "bytes") bytesS := by
  intro nm sc C args vals H P hS s ex mm Q E rv F R k
  unfold bytesS at hS
  split at hS
  · obtain ⟨xs, e, hr, hz, hP⟩ := hS
    cases rv with | cons r rs =>
    cases rs
    cases r
    obtain ⟨its, hl, rr⟩ := R.isList e
    have hlen := rr.length
    have hlen2 : (intsV xs).length = xs.length := by unfold intsV; simp
    refine call_bytes_ints hl rr.toInts hr (by rw [sizeLine_eq]; omega) C.hh fun h' t tk hk => ?_
    have F' := F.grownK hk
    have R' := R.same fun a o e _ _ => hk a o e
    have z : VRep (.bytes (byteArr xs) t) (.bytes (byteArr xs).toList) := .bytes _ _
    have e2 : (byteArr xs).toList = xs.map fun n => n.toNat.toUInt8 := by unfold byteArr; simp
    rw [e2] at z
    exact k _ _ H h' tk z hP F' R'
  · exact hS.elim
noncomputable def listS : Spec := fun args H P => match args with
  | [.ref l] => ∃ vs, H l = some (.list vs) ∧ vs.length ≤ LIM ∧ ∀ n, H n = none → P (.ref n) (upd H n (.list vs))
  | _ => False
theorem bok_list : BOk V lv (.type "list") listS := by
  intro nm sc C args vals H P hS s ex mm Q E rv F R k
  unfold listS at hS
  split at hS
  · obtain ⟨vs, e, hz, hP⟩ := hS
    cases rv with | cons r rs =>
    cases rs
    cases r
    obtain ⟨its, hl, rr⟩ := R.isList e
    obtain ⟨news, N, nw⟩ := R.new
    refine list_copyK F N hl (fun D c h' F' N' l1 => ?_) (by rw [List.size_toArray, rr.length, sizeLine_eq]; unfold LIM at hz; omega)
    obtain ⟨R', hn⟩ := nw D _ (.list vs) h' l1 (.list rr) N'
    exact k _ _ _ _ s.toks (.ref _) (hP _ hn) F' R'
  · exact hS.elim
noncomputable def dictS : Spec := fun args H P => match args with
  | [.ref l] => H l = some .edict ∧ l ≠ sysModules ∧ ∀ n, P (.ref n) H
  | _ => False
theorem bok_dict : BOk V lv (.type "dict") dictS := by
  intro nm sc C args vals H P hS s ex mm Q E rv F R k
  unfold dictS at hS
  split at hS
  · obtain ⟨e, hn, hP⟩ := hS
    cases rv with | cons r rs =>
    cases rs
    cases r
    obtain ⟨co, hg, hr⟩ := R.get e
    cases hr with | @edict n =>
    have hd : s.heap.DictOf (strKind V.prog V.w) _ [] := ⟨_, #[], n, hg, ⟨rfl, rfl, rfl⟩, rfl, fun x hx => by simp at hx, .nil, by simp⟩
    refine kt_call_dict (beq_eq_false_iff_ne.mpr hn) hd (Nat.zero_le _) fun h' _ hs => ?_
    have hk : ∀ b o, s.heap.get? b = some o → h'.get? b = some o := fun b o eb => (hs.2 b (Nat.ne_of_lt (Heap.lt_size eb))).trans (Heap.get?_push_of_some _ eb)
    exact k _ _ H h' s.toks (.ref _) (hP _) (F.grownK hk) (R.same fun a o e _ _ => hk a o e)
  · exact hS.elim
noncomputable def mDict : ME := fun _ H P => ∀ n, H n = none → n ≠ sysModules → P (.ref n) (upd H n .edict)
theorem sim_dict {pos : Pos} : SimE V lv nm sc nz (eval (.Dict [] [] pos)) mDict := by
  intro C ρ H P hm s ex mm Q E F LR R k
  refine wpAny_Dict_empty ?_
  obtain ⟨R', hn⟩ := RepN.pushNew F R (o := dictOf [] 0) .edict
  have hb := F.notModules (modules_low C.T.nolimit)
  exact k _ _ _ _ s.toks (.ref _) (hm _ hn (beq_eq_false_iff_ne.mp hb)) (F.push _) R'

theorem VRep.bytes_inv {v : Value} {l : List UInt8} (h : VRep v (.bytes l)) : ∃ b t, v = .bytes b t ∧ b.toList = l := by
  generalize e : AV.bytes l = a at h
  cases h <;> cases e
  exact ⟨_, _, rfl, rfl⟩
/-! methods of lists -/
inductive LM where
  | append
  | pop
  | extend
noncomputable def lmS (k : LM) (l : Addr) (args : List AV) (H : AHeap) (P : AV → AHeap → Prop) : Prop := match k, args with
  | .append, [v] => ∃ vs, H l = some (.list vs) ∧ vs.length < LIM ∧ P .none (upd H l (.list (vs ++ [v])))
  | .pop, [] => ∃ vs v, H l = some (.list (vs ++ [v])) ∧ vs.length < LIM ∧ P v (upd H l (.list vs))
  | .extend, [.bytes [c]] => ∃ vs, H l = some (.list vs) ∧ vs.length < LIM ∧ P .none (upd H l (.list (vs ++ [.int c.toNat])))
  | _, _ => False
noncomputable def LM.name : LM → Str
  | .append => Str.ofString "append"
  | .pop => Str.ofString "pop"
  | .extend => Str.ofString "extend"
noncomputable def LM.id : LM → String
  | .append => "list.append"
  | .pop => "list.pop"
  | .extend => "list.extend"
noncomputable def mLM (k : LM) (m : ME) (ms : MA) : ME := fun ρ H P => m ρ H fun o H => match o with
  | .ref l => (∃ vs, H l = some (.list vs)) ∧ ms ρ H fun vs H => lmS k l vs H P
  | _ => False
theorem kl_last_snoc : ∀ (xs : List Value) (y : Value), kl_last (xs ++ [y]) = some (xs, y)
  | [], _ => rfl
  | a :: r, y => by show kl_last (a :: (r ++ [y])) = _; unfold kl_last; rw [kl_last_snoc r y]
theorem extend_byte {prog : Program} {w : World} {A : Around} {E : Value → Shared → Prop} {s : Shared} {h₀ : Heap} {L D : Addr} {m : Str → Option Value} {news : List (Addr × Obj)} {its : List Value} {n : Nat} {c : UInt8} {tb : Tok} {Q : Value → Shared → Prop}
    (hh : A.handled = none) (F : Fr h₀ L s.heap m) (N : News h₀ L s.heap news) (pre post : List (Addr × Obj)) (hnews : news = pre ++ (D, listOf its.toArray n) :: post) (h1 : ∀ p ∈ pre, p.1 ≠ D) (h2 : ∀ p ∈ post, p.1 ≠ D)
    (h : ∀ h' tk t n', Fr h₀ L h' m → News h₀ L h' (pre ++ (D, listOf (its ++ [Value.int c.toNat t]).toArray n') :: post) → Q .none { s with heap := h', toks := tk }) (hz : its.length < 16777216) :
    wpAny (model prog w) A (call (.builtin "list.extend") [.ref D, .bytes #[c] tb]) Q E s := by
  subst hnews
  have z := N (D, listOf its.toArray n) (List.mem_append_right _ (.head _))
  have hS : s.heap.get? D = some { cls := .type "list", dict := none, data := .seq its.toArray n, slots := #[] } := z.1
  have hDI : D ≠ s.heap.objs.size := Nat.ne_of_lt (Heap.lt_size hS)
  refine wpAny_call (codeAny_call_builtin PySem.F.slot_list_extend.plain PySem.F.entry_list_extend (PySem.F.slot_list_extend.check _ _ _ _ _ _ _ _ ⟨_, hS, rfl⟩ (PySem.F.args_list_extend_2 _ _) ?_))
  unfold Builtin.«list.extend»
  refine wpAny_bind (m := selfAndOne "list.extend" _) (wpAny_pure ?_)
  unfold Builtin.List.listExtendWith
  refine wpAny_bind (wpAny_typeOf (T := "bytes") (typeIs_bytes s _ _) ?_)
  have h1' : Builtin.List.listSameRef (.ref D) (.bytes #[c] tb) = false := rfl
  have h2' : (Value.type "bytes" == Value.type "list") = false := by decide
  have h3' : (Value.type "bytes" == Value.type "tuple") = false := by decide
  simp only [h1', h2', h3', Bool.or_false, Bool.false_eq_true, if_false]
  refine wpAny_bind (KBw.pyIter_bytes ?_)
  have hS₁ := Heap.get?_push_of_some { cls := .type "bytes_iterator", data := .fields #[.bytes #[c] tb, .int 0 0] } hS
  have F₁ := F.push { cls := .type "bytes_iterator", data := .fields #[.bytes #[c] tb, .int 0 0] }
  have hI : KBw.IsBytesIter (s.heap.push { cls := .type "bytes_iterator", data := .fields #[.bytes #[c] tb, .int 0 0] }) s.heap.objs.size #[c] tb 0 := ⟨_, Heap.get?_push_size _ rfl, rfl, rfl⟩
  have N₁ : News h₀ L (s.heap.push { cls := .type "bytes_iterator", data := .fields #[.bytes #[c] tb, .int 0 0] }) (pre ++ (D, listOf its.toArray n) :: post) := fun p hp => ⟨Heap.get?_push_of_some _ (N p hp).1, (N p hp).2⟩
  have nI : h₀.get? s.heap.objs.size = none := next_is_new F
  have nIL : s.heap.objs.size ≠ L := Nat.ne_of_gt F.ns.lt
  have nIp : ∀ p ∈ pre ++ (D, listOf its.toArray n) :: post, p.1 ≠ s.heap.objs.size := fun p hp => Nat.ne_of_lt (Heap.lt_size (N p hp).1)
  refine wpAny_bind (wpAny_holding ?_)
  have hint : ∀ (Q' : Bool → Shared → Prop) (s' : Shared), Q' false s' → wpAny (model prog w) A.in1 (Builtin.List.listLengthHint (.bytes #[c] tb)) Q' E s' := by
    intro Q' s' hq
    unfold Builtin.List.listLengthHint
    refine wpAny_bind (wpAny_specialOf (typeIs_bytes s' _ _) FB.slot_bytes_len.lookup ?_)
    generalize hid : ("bytes.__len__" : String) = id0
    wp_delta
    rw [show splitId id0 = some ("bytes", "__len__") from by subst hid; decide +kernel]
    subst hid
    refine wpAny_bind (wpAny_isInstance (T := "bytes") (b := true) (typeIs_bytes s' _ _) (by rw [isSubtype_type]; kernel_rfl) ?_)
    refine wpAny_ite_split (fun hab => absurd hab (by decide)) (fun _ => ?_)
    refine wpAny_ite_split (fun _ => ?_) (fun hab => absurd (by decide +kernel) hab)
    refine wpAny_bind (wpAny_typeOf (typeIs_bytes s' _ _) ?_)
    exact wpAny_pure hq
  refine hint _ _ ?_
  simp only [Bool.false_or]
  refine wpAny_ite_split (fun hab => absurd hab (by decide)) (fun _ => wpAny_pure ⟨plainId_quiet PySem.F.plain_extend_loop _, ?_⟩)
  -- the first turn: the byte
  refine codeAny_builtin PySem.F.entry_extend_loop ?_
  rw [Around.under_plainId PySem.F.plain_extend_loop _]
  show wpAny _ A.in1 (pyNext (.ref s.heap.objs.size) >>= _) _ _ _
  refine wpAny_bind (KBw.next_item hI (c := c) rfl fun h₂ hI₂ hs₂ => ?_)
  have hS₂ : h₂.get? D = some { cls := .type "list", dict := none, data := .seq its.toArray n, slots := #[] } := (hs₂.2 D hDI).trans hS₁
  have F₂ := F₁.change hs₂ nIL nI
  have N₂ : News h₀ L h₂ (pre ++ (D, listOf its.toArray n) :: post) := fun p hp => ⟨(hs₂.2 p.1 (nIp p hp)).trans (N₁ p hp).1, (N₁ p hp).2⟩
  show wpAny _ A.in1 (updateSeq D (·.push (Value.int (c.toNat : Int) s.toks)) >>= _) _ _ _
  refine wpAny_bind ?_
  refine wpAny_updateSeq hS₂ rfl (wpAny_pure ⟨plainId_quiet PySem.F.plain_extend_loop _, ?_⟩) (by rw [List.size_toArray, sizeLine_eq]; omega) (by rw [Array.size_push, List.size_toArray, sizeLine_eq]; omega)
  -- the second turn: the end
  refine codeAny_builtin PySem.F.entry_extend_loop ?_
  rw [Around.under_plainId PySem.F.plain_extend_loop _]
  show wpAny _ A.in1 (pyNext (.ref s.heap.objs.size) >>= _) _ _ _
  have hsD := Heap.SameBut.update h₂ D (Obj.mapSeq (·.push (Value.int (c.toNat : Int) s.toks)))
  have N₃ := kl_turn (fun xs => xs.push (Value.int (c.toNat : Int) s.toks)) (its' := (its ++ [Value.int (c.toNat : Int) s.toks]).toArray) N₂ h1 h2 (by simp) (by simp)
  have F₃ := F₂.change hsD z.2.1 z.2.2
  have hI₃ : KBw.IsBytesIter (h₂.update D (Obj.mapSeq (·.push (Value.int (c.toNat : Int) s.toks)))) s.heap.objs.size #[c] tb 1 := by
    obtain ⟨o, ho, r⟩ := hI₂
    exact ⟨o, (hsD.2 _ (Ne.symm hDI)).trans ho, r⟩
  refine wpAny_bind (KBw.next_end hh hI₃ rfl fun h₄ he₄ => ?_)
  refine wpAny_pure ?_
  have F₄ : Fr h₀ L h₄ m := ⟨F₃.ns.extBut he₄ (Ne.symm nIL), fun b o e => he₄ b o (fun q => by rw [q, nI] at e; cases e) (F₃.keep b o e), F₃.above⟩
  have N₄ : News h₀ L h₄ (pre ++ (D, listOf (its ++ [Value.int (c.toNat : Int) s.toks]).toArray (n + 1)) :: post) := fun p hp => by
    refine ⟨he₄ _ _ ?_ (N₃ p hp).1, (N₃ p hp).2⟩
    rcases List.mem_append.mp hp with q | q
    · exact nIp p (List.mem_append_left _ q)
    · rcases List.mem_cons.mp q with rfl | q
      · exact hDI
      · exact nIp p (List.mem_append_right _ (.tail _ q))
  exact h h₄ _ _ _ F₄ N₄

theorem sim_lm {k : LM} {o : Expr} {apos pos : Pos} {es : List Expr} {m : ME} {ms : MA} (ho : SimE V lv nm sc nz (eval o) m) (hs : SimL V lv nm sc nz pos es ms) (hstar : ∀ env, (starEach es env).any (·.1) = false)
    (he : ∀ env, ∃ pl, eval (.Call (.Attribute o k.name apos) es [] pos) env = (do
      let ov ← eval o env
      standAt apos.atName
      let (f, first) ← holding [ov] (getMethod ov k.name pl)
      callWith pos f first (backTo pos (starEach es env)) [])) :
    SimE V lv nm sc nz (eval (.Call (.Attribute o k.name apos) es [] pos)) (mLM k m ms) := by
  intro C ρ H P hmm s ex mm Q E F LR R kk
  obtain ⟨pl, he⟩ := he C.env
  refine MethodCall_ (pl := pl) (ho C ρ H _ hmm s ex mm _ E F LR R fun v av H₁ h₁' tk₁ ro hm₁ F₁ R₁ => ?_) he
  cases ro with
  | ref l =>
    obtain ⟨⟨vs₀, e₀⟩, hms⟩ := hm₁
    have hplain : (backTo pos (starEach es C.env)).any (·.1) = false := by
      have : (backTo pos (starEach es C.env)).any (·.1) = (starEach es C.env).any (·.1) := by
        unfold backTo
        rw [List.any_map]
        rfl
      rw [this]; exact hstar _
    have meth : ∀ Q' : Value × List Value → Shared → Prop, Q' (.builtin k.id, [.ref l]) { s with heap := h₁', toks := tk₁ } → wpAny (model V.prog V.w) C.A (getMethod (.ref l) k.name pl) Q' E { s with heap := h₁', toks := tk₁ } := by
      intro Q' hq
      obtain ⟨co, pre, post, hr, N, _, _, _, _⟩ := R₁.split e₀
      cases hr with
      | list hv =>
        cases k
        · exact kl_method (s := { s with heap := h₁', toks := tk₁ }) N (List.mem_append_right _ (.head _)) PySem.F.slot_list_append PySem.F.type_list_append hq
        · exact kl_method (s := { s with heap := h₁', toks := tk₁ }) N (List.mem_append_right _ (.head _)) PySem.F.slot_list_pop PySem.F.type_list_pop hq
        · exact kl_method (s := { s with heap := h₁', toks := tk₁ }) N (List.mem_append_right _ (.head _)) PySem.F.slot_list_extend PySem.F.type_list_extend hq
    refine meth _ ?_
    refine Calls.callWith_builtin hplain (evalArgs_any hplain ?_)
    refine hs C ρ H₁ _ hms _ ex mm _ E F₁ LR R₁ fun vs avs H₂ h₂ tk₂ rvs hm₂ F₂ R₂ => ?_
    show wpAny _ _ (call (.builtin k.id) ([.ref l] ++ vs)) _ _ _
    unfold lmS at hm₂
    split at hm₂
    · cases rvs with | cons r rs =>
      cases rs
      obtain ⟨ws, e, hz, hP⟩ := hm₂
      obtain ⟨co, pre, post, hr, N, h1, h2, _, nx⟩ := R₂.split e
      cases hr with | @list its n _ hv =>
      have hlen := hv.length
      refine append_K (s := { s with heap := h₂, toks := tk₂ }) F₂ N (upd_of_split h1 h2) (fun h' F' N' => ?_) (by rw [List.size_toArray, hlen, sizeLine_eq]; unfold LIM at hz; omega)
      rw [List.push_toArray] at N'
      exact kk _ _ _ h' _ .none hP F' (nx _ _ h' (.list (hv.append (.cons r .nil))) N')
    · cases rvs
      obtain ⟨ws, w, e, hz, hP⟩ := hm₂
      obtain ⟨co, pre, post, hr, N, h1, h2, _, nx⟩ := R₂.split e
      cases hr with | @list its n _ hv =>
      obtain ⟨xs, y, rfl, r1, r2⟩ := hv.snoc
      have hlen := r1.length
      refine kl_pop (s := { s with heap := h₂, toks := tk₂ }) (p := xs) (y := y) F₂ N ?_ (upd_of_split h1 h2) (by simp; rw [sizeLine_eq]; unfold LIM at hz; omega) (fun h' F' N' => ?_)
      · exact kl_last_snoc xs y
      · exact kk _ _ _ h' _ r2 hP F' (nx _ _ h' (.list r1) N')
    · rename_i c _
      cases rvs with | cons r rs =>
      cases rs
      obtain ⟨ws, e, hz, hP⟩ := hm₂
      obtain ⟨co, pre, post, hr, N, h1, h2, _, nx⟩ := R₂.split e
      cases hr with | @list its n _ hv =>
      have hlen := hv.length
      obtain ⟨b, tb, rfl, hb⟩ := r.bytes_inv
      have hb' : b = #[c] := by rw [← Array.toArray_toList (xs := b), hb]
      subst hb'
      refine extend_byte (s := { s with heap := h₂, toks := tk₂ }) C.hh F₂ N pre post rfl h1 h2 (fun h' tk t n' F' N' => ?_) (by unfold LIM at hz; omega)
      exact kk _ _ _ h' _ .none hP F' (nx _ _ h' (.list (hv.append (.cons (.int _ _) .nil))) N')
    · exact hm₂.elim
  | _ => exact hm₁.elim

/-! an object of a class made -/
structure ClsOk (K : Frag) (C : Addr) (f : Addr) : Prop where
  makes : makesIn K C = true
  init : findIn K (.ref C) "__init__" = some (some (.ref f))
  fn : isFn K (.ref f) = true
  keep : keepIn K (.ref C) = true
noncomputable def mNew (C : Addr) (S : Spec) (ms : MA) : ME := fun ρ H P => ms ρ H fun vs H => ∀ x dx, H dx = none → H x = none → x ≠ dx → S (.ref x :: vs) (upd (upd H dx (.attrs [])) x (.inst C dx)) fun r H' => r = .none ∧ P (.ref x) H'
theorem RepN.new2 {h₀ h : Heap} {L : Addr} {ex : List (Addr × Obj)} {H : AHeap} (R : RepN h₀ L h ex H) : ∃ news, News h₀ L h news ∧ ∀ x dx co cd o od h', (∀ p ∈ news, p.1 < dx) → dx < x → ORep co o → ORep cd od → News h₀ L h' ((x, co) :: (dx, cd) :: news) → RepN h₀ L h' ex (upd (upd H dx od) x o) ∧ H dx = none ∧ H x = none := by
  obtain ⟨news, N, hd, hH, hx⟩ := R
  refine ⟨news, N, fun x dx co cd o od h' hl hlt hr hrd N' => ?_⟩
  have hn : ∀ l, dx ≤ l → H l = none := fun l hle => by
    cases q : H l with
    | none => rfl
    | some z => obtain ⟨c, hm, _⟩ := hH l z q; exact absurd (hl _ hm) (Nat.not_lt.mpr hle)
  refine ⟨⟨_, N', ?_, fun b ob hb => ?_, fun p hp => ?_⟩, hn dx (Nat.le_refl _), hn x (Nat.le_of_lt hlt)⟩
  · rw [List.map_cons, List.map_cons, List.nodup_cons, List.nodup_cons]
    refine ⟨fun hm => ?_, fun hm => ?_, hd⟩
    · rcases List.mem_cons.mp hm with e | hm
      · exact absurd hlt (by rw [show dx = x from e.symm]; exact Nat.lt_irrefl _)
      · obtain ⟨p, hp, e⟩ := List.mem_map.mp hm
        have := hl p hp
        have e' : p.1 = x := e
        rw [e'] at this
        exact absurd (Nat.lt_trans this hlt) (Nat.lt_irrefl _)
    · obtain ⟨p, hp, e⟩ := List.mem_map.mp hm
      have := hl p hp
      have e' : p.1 = dx := e
      rw [e'] at this
      exact absurd this (Nat.lt_irrefl _)
  · by_cases q : b = x
    · subst q; rw [upd_self] at hb; cases hb; exact ⟨co, .head _, hr⟩
    · rw [upd_ne _ _ q] at hb
      by_cases q2 : b = dx
      · subst q2; rw [upd_self] at hb; cases hb; exact ⟨cd, .tail _ (.head _), hrd⟩
      · rw [upd_ne _ _ q2] at hb
        obtain ⟨cb, hmb, hrb⟩ := hH b ob hb
        exact ⟨cb, .tail _ (.tail _ hmb), hrb⟩
  · obtain ⟨hp1, hp2⟩ := hx p hp
    have l1 := hl _ hp1
    have ne1 : p.1 ≠ x := Nat.ne_of_lt (Nat.lt_trans l1 hlt)
    have ne2 : p.1 ≠ dx := Nat.ne_of_lt l1
    exact ⟨.tail _ (.tail _ hp1), by rw [upd_ne _ _ ne1, upd_ne _ _ ne2]; exact hp2⟩
theorem sim_new {x : Str} {npos pos : Pos} {es : List Expr} {ms : MA} {S : Spec} {cls f : Addr} (hc : CallOk V lv f S) (hcl : ClsOk V.K cls f) (hg : nsIn V.K mainGlobals x = some (some (.ref cls))) (hs : SimL V (lv + 2) nm sc nz pos es ms)
    (hk : sc.kind = .function) (hl : ∀ L a cd, (envOf nm sc L a cd).kindOf x = some .globalImplicit) (hd : (x == ("__debug__" : Str)) = false) (hstar : ∀ env, (starEach es env).any (·.1) = false) :
    SimE V (lv + 2) nm sc nz (eval (.Call (.Name x npos) es [] pos)) (mNew cls S ms) := by
  intro C ρ H P hm s ex mm Q E F LR R k
  refine Call_ (nameX_K F C.X (topRead_of C.T) hg ?_ hk (hl C.L C.a C.cd) hd)
  have hplain : (backTo pos (starEach es C.env)).any (·.1) = false := by
    have : (backTo pos (starEach es C.env)).any (·.1) = (starEach es C.env).any (·.1) := by
      unfold backTo
      rw [List.any_map]
      rfl
    rw [this]; exact hstar _
  refine callWith_of (by rw [hplain]; rfl) (keeps_K hcl.keep) (evalArgs_any hplain ?_)
  refine hs C ρ H _ hm s ex mm _ E F LR R fun vs avs H₁ h₁ tk₁ rvs hm₁ F₁ R₁ => ⟨C.X.keeps F₁.keep, ?_⟩
  obtain ⟨news, N, nw⟩ := R₁.new2
  refine call_cls (s := { s with heap := h₁, toks := tk₁ }) F₁ C.X N hcl.makes hcl.init hcl.fn fun y dy h' F' N' l1 l2 => ?_
  obtain ⟨R', hn1, hn2⟩ := nw y dy _ _ (.inst cls dy) (.attrs []) h' l1 l2 (.inst cls dy) (.attrs .nil) N'
  have hd' := C.hd
  have hu' := C.hu
  have hne : y ≠ dy := Nat.ne_of_gt l2
  refine hc _ _ _ (hm₁ y dy hn1 hn2 hne) C.A₀ (C.A.under (.builtin "type.__call__" ⟨.ref cls :: vs, []⟩)) C.env C.outer C.h₀ C.L mm _ ex _ _ C.B F' C.X R' C.T C.hA rfl hk C.hh ?_ ?_ (.cons (.ref y) rvs) fun v av H' h₂ tk r hP F₂ R₂ => ?_
  · rw [depth_under_kw]; omega
  · have : (C.A.under (.builtin "type.__call__" ⟨.ref cls :: vs, []⟩)).units = C.A.units + (Code.builtin "type.__call__" ⟨.ref cls :: vs, []⟩).cUnits := rfl
    rw [this]
    have h3 : (Code.builtin "type.__call__" ⟨.ref cls :: vs, []⟩).cUnits ≤ 3 := Nat.le_of_ble_eq_true rfl
    omega
  · obtain ⟨rfl, hP⟩ := hP
    cases r
    exact ⟨rfl, k _ _ _ h₂ tk (.ref y) hP F₂ R₂⟩
end
end
section
set_option genSizeOf false
set_option genSizeOfSpec false
set_option maxRecDepth 100000
section
variable {h₀ h h' : Heap} {L : Addr} {ex : List (Addr × Obj)} {H : AHeap} {mm : Str → Option Value}
theorem RepN.drop {I : Addr} {co : Obj} (R : RepN h₀ L h ((I, co) :: ex) H) (he : Heap.ExtBut I h h') (hx : ∀ p ∈ ex, p.1 ≠ I) : RepN h₀ L h' ex H := by
  obtain ⟨news, N, hd, hH, hx'⟩ := R
  obtain ⟨hm, hn⟩ := hx' (I, co) (.head _)
  obtain ⟨pre, post, rfl, h1, h2⟩ := split_at hd hm
  refine ⟨pre ++ post, fun p hp => ?_, ?_, fun b ob hb => ?_, fun p hp => ?_⟩
  · rcases List.mem_append.mp hp with q | q
    · have P := N p (List.mem_append_left _ q); exact ⟨he _ _ (h1 p q) P.1, P.2⟩
    · have P := N p (List.mem_append_right _ (.tail _ q)); exact ⟨he _ _ (h2 p q) P.1, P.2⟩
  · rw [List.map_append] at hd ⊢
    rw [List.nodup_append] at hd ⊢
    rw [List.map_cons, List.nodup_cons] at hd
    exact ⟨hd.1, hd.2.1.2, fun a ha b hb => hd.2.2 a ha b (.tail _ hb)⟩
  · obtain ⟨cb, hmb, hrb⟩ := hH b ob hb
    have hn' : H I = none := hn
    have ne : b ≠ I := fun z => by rw [z, hn'] at hb; cases hb
    refine ⟨cb, ?_, hrb⟩
    rcases List.mem_append.mp hmb with z | z
    · exact List.mem_append_left _ z
    · rcases List.mem_cons.mp z with z | z
      · exact absurd (congrArg Prod.fst z) ne
      · exact List.mem_append_right _ z
  · obtain ⟨hp1, hp2⟩ := hx' p (.tail _ hp)
    refine ⟨?_, hp2⟩
    rcases List.mem_append.mp hp1 with z | z
    · exact List.mem_append_left _ z
    · rcases List.mem_cons.mp z with z | z
      · exact absurd (congrArg Prod.fst z) (hx p hp)
      · exact List.mem_append_right _ z
theorem RepN.pushEx (F : Fr h₀ L h mm) (R : RepN h₀ L h ex H) {o : Obj} (hl : o.isFreed = false) : RepN h₀ L (h.push o) ((h.objs.size, o) :: ex) H ∧ ∀ p ∈ ex, p.1 ≠ h.objs.size := by
  obtain ⟨news, N, k⟩ := R.junk
  exact ⟨k _ _ _ (fun p hp => Heap.lt_size (N p hp).1) (N.push F o hl), fun p hp => Nat.ne_of_lt (Heap.lt_size (R.getEx hp).1)⟩
theorem Fr.ext (F : Fr h₀ L h mm) {I : Addr} (he : Heap.ExtBut I h h') (n1 : I ≠ L) (n2 : h₀.get? I = none) : Fr h₀ L h' mm :=
  ⟨F.ns.extBut he (Ne.symm n1), fun b o e => he b o (fun q => by rw [q, n2] at e; cases e) (F.keep b o e), F.above⟩
end

/-! targets -/
noncomputable abbrev Tg := AV → Loc → AHeap → (Loc → AHeap → Prop) → Prop
noncomputable def tName (i : Nat) : Tg := fun v ρ H k => k (ρ.set i (some v)) H
noncomputable def setAttrS (C : Addr) (n : Str) (o v : AV) (H : AHeap) (k : AHeap → Prop) : Prop := match o with
  | .ref x => ∃ dx fs, H x = some (.inst C dx) ∧ H dx = some (.attrs fs) ∧ fs.length ≤ 100 ∧ k (upd H dx (.attrs (putA n v fs)))
  | _ => False
noncomputable def tAttr (C : Addr) (n : Str) (m : ME) : Tg := fun v ρ H k => m ρ H fun o H => setAttrS C n o v H (k ρ)
noncomputable def setS (o i v : AV) (H : AHeap) (k : AHeap → Prop) : Prop := match o, i with
  | .ref l, .int j => ∃ vs, H l = some (.list vs) ∧ 0 ≤ j ∧ j < vs.length ∧ vs.length ≤ LIM ∧ k (upd H l (.list (vs.set j.toNat v)))
  | _, _ => False
noncomputable def tSub (m₁ m₂ : ME) : Tg := fun v ρ H k => m₁ ρ H fun o H => m₂ ρ H fun i H => setS o i v H (k ρ)
noncomputable def tEach : List Tg → List AV → Loc → AHeap → (Loc → AHeap → Prop) → Prop
  | t :: ts, v :: vs, ρ, H, k => t v ρ H fun ρ H => tEach ts vs ρ H k
  | _, _, ρ, H, k => k ρ H
noncomputable def seqS (v : AV) (H : AHeap) (n : Nat) (k : List AV → Prop) : Prop := match v with
  | .ref a => ∃ vs, (H a = some (.tup vs) ∨ H a = some (.list vs)) ∧ vs.length = n ∧ k vs
  | _ => False
noncomputable def tTup (ts : List Tg) : Tg := fun v ρ H k => seqS v H ts.length fun vs => tEach ts vs ρ H k
noncomputable def SimTg (V : Wd) (lv : Nat) (nm : Str) (sc : Scope) (nz : List Str) (e : Expr) (tg : Tg) : Prop := ∀ v av, VRep v av → SimU V lv nm sc nz (fun env => assign e env v) (tg av)
inductive SimTgs (V : Wd) (lv : Nat) (nm : Str) (sc : Scope) (nz : List Str) : List Expr → List Tg → Prop
  | nil : SimTgs V lv nm sc nz [] []
  | cons {e es t ts} : SimTg V lv nm sc nz e t → (∀ env, assignEach (e :: es) env = (false, assign e env) :: assignEach es env) → SimTgs V lv nm sc nz es ts → SimTgs V lv nm sc nz (e :: es) (t :: ts)

structure SetOk (K : Frag) (C : Addr) (n : Str) : Prop where
  setattr : findIn K (.ref C) "__setattr__" = some (some (.builtin "object.__setattr__"))
  over : plainOver K C = true
  taker : takerIn K C n = some none
  dict : hasDictIn K C = true
theorem putA_length (n : Str) (v : AV) : ∀ fs : List (Str × AV), (putA n v fs).length ≤ fs.length + 1
  | [] => by simp [putA]
  | (m, w) :: r => by
    unfold putA
    split
    · simp
    · simp only [List.length_cons]; have := putA_length n v r; omega

section
variable {V : Wd} {lv : Nat} {nm : Str} {sc : Scope} {nz : List Str}
theorem setAttr_ok {C : FC V lv nm sc} {cls : Addr} {n : Str} (hok : SetOk V.K cls n) {o v : Value} {ao av : AV} {H : AHeap} {k : AHeap → Prop} {s : Shared} {ex : List (Addr × Obj)} {mm : Str → Option Value} {Q : Unit → Shared → Prop} {E : Value → Shared → Prop}
    (ro : VRep o ao) (rv : VRep v av) (F : Fr C.h₀ C.L s.heap mm) (R : RepN C.h₀ C.L s.heap ex H) (hm : setAttrS cls n ao av H k)
    (kk : ∀ H' h' tk, k H' → Fr C.h₀ C.L h' mm → RepN C.h₀ C.L h' ex H' → Q () { s with heap := h', toks := tk }) : wpAny (model V.prog V.w) C.A (setAttr o n v) Q E s := by
  unfold setAttrS at hm
  cases ro with
  | ref x =>
    obtain ⟨dx, fs, e1, e2, hz, hP⟩ := hm
    obtain ⟨co, g1, r1⟩ := R.get e1
    obtain ⟨cd, pre, post, hr, N, h1, h2, _, nx⟩ := R.split e2
    cases r1 with
    | inst =>
      cases hr with
      | @attrs es n' _ ha =>
        have I : InstAt s.heap x (instObj cls dx) cls (some (dictOf es n')) := ⟨g1, rfl, rfl, (N _ (List.mem_append_right _ (.head _))).1⟩
        have hp := ha.put (n := n) (hs := PyData.keyHash V.w.params n) (t := s.toks + 1) rv
        refine set_dict F C.X N I rfl hok.setattr hok.over hok.taker hok.dict (ha.getL_ok n) rfl (upd_of_split h1 h2) ?_ fun h' F' N' => ?_
        · rw [hp.length]; have := putA_length n av fs; omega
        · exact kk _ h' _ hP F' (nx _ _ h' (.attrs hp) N')
  | _ => exact hm.elim
theorem setItem_ok {C : FC V lv nm sc} {o i v : Value} {ao ai av : AV} {H : AHeap} {k : AHeap → Prop} {s : Shared} {ex : List (Addr × Obj)} {mm : Str → Option Value} {Q : Unit → Shared → Prop} {E : Value → Shared → Prop}
    (ro : VRep o ao) (ri : VRep i ai) (rv : VRep v av) (F : Fr C.h₀ C.L s.heap mm) (R : RepN C.h₀ C.L s.heap ex H) (hm : setS ao ai av H k)
    (kk : ∀ H' h' tk, k H' → Fr C.h₀ C.L h' mm → RepN C.h₀ C.L h' ex H' → Q () { s with heap := h', toks := tk }) : wpAny (model V.prog V.w) C.A (setItem o i v) Q E s := by
  unfold setS at hm
  cases ro with
  | ref l =>
    cases ri with
    | int j t =>
      obtain ⟨vs, e, h0, hj, hz, hP⟩ := hm
      obtain ⟨co, pre, post, hr, N, h1, h2, _, nx⟩ := R.split e
      cases hr with
      | @list its n _ hv =>
        have hlen := hv.length
        have z := N (l, listOf its.toArray n) (List.mem_append_right _ (.head _))
        unfold LIM at hz
        refine ki_setAt z.1 h0 (by omega) (by rw [List.size_toArray, hlen]; exact hj) ?_
        have N' := ki_turn (fun xs => xs.setIfInBounds j.toNat v) (its' := (its.set j.toNat v).toArray) (n' := n) N h1 h2 (by simp) (by simp)
        exact kk _ _ _ hP (F.change (Heap.SameBut.update ..) z.2.1 z.2.2) (nx _ _ _ (.list (hv.set rv _)) N')
    | _ => exact hm.elim
  | _ => exact hm.elim
theorem unpack_ok {C : FC V lv nm sc} {v : Value} {av : AV} {n : Nat} {H : AHeap} {k : List AV → Prop} {s : Shared} {ex : List (Addr × Obj)} {mm : Str → Option Value} {Q : List Value → Shared → Prop} {E : Value → Shared → Prop}
    (rv : VRep v av) (F : Fr C.h₀ C.L s.heap mm) (R : RepN C.h₀ C.L s.heap ex H) (hm : seqS av H n k)
    (kk : ∀ xs vs h', VReps xs vs → vs.length = n → k vs → Fr C.h₀ C.L h' mm → RepN C.h₀ C.L h' ex H → Q xs { s with heap := h' }) : wpAny (model V.prog V.w) C.A (unpackItems v n none) Q E s := by
  unfold seqS at hm
  cases rv with
  | ref a =>
    obtain ⟨vs, e, hn, hk⟩ := hm
    have fin : ∀ its h', VReps its vs → Heap.ExtBut s.heap.objs.size s.heap h' → Q its { s with heap := h' } := fun its h' r he =>
      kk its vs h' r hn hk (Fr.ext F he (Nat.ne_of_gt F.ns.lt) (next_is_new F)) (R.same fun b o eb _ _ => he b o (Nat.ne_of_lt (Heap.lt_size eb)) eb)
    rcases e with e | e
    · obtain ⟨its, hl, r⟩ := R.isTup e
      have hs : n = its.toArray.size := by rw [List.size_toArray, r.length, hn]
      rw [hs]
      exact unpackItems_tuple C.hh hl fun h' he => fin its h' r he
    · obtain ⟨its, hl, r⟩ := R.isList e
      have hs : n = its.toArray.size := by rw [List.size_toArray, r.length, hn]
      rw [hs]
      exact kun_itemsOf C.hh hl fun h' he => fin its h' r he
  | _ => exact hm.elim
theorem simtg_name {x : Str} {pos : Pos} {i : Nat} (hx : nz[i]? = some x) (hn : nz.Nodup) (hk : sc.kind = .function) (hl : ∀ L a cd, (envOf nm sc L a cd).kindOf x = some .local) : SimTg V lv nm sc nz (.Name x pos) (tName i) := by
  intro v av rv C ρ H P hm s ex mm Q E F LR R k
  refine PyProof.Rows.assign_Name ?_
  refine wpAny_storeName_local (hl C.L C.a C.cd) F.ns (fun h' hns hs => ?_) (by show (sc.kind == .class || (sc.kind == .module && C.L != mainGlobals)) = false; rw [hk]; rfl)
  exact k _ _ h' _ _ hm (F.set hns hs) (LR.set hn hx rv) (R.sameBut hs)
theorem simtg_attr {o : Expr} {n : Str} {pos : Pos} {cls : Addr} {m : ME} (h : SimE V lv nm sc nz (eval o) m) (hok : SetOk V.K cls n) : SimTg V lv nm sc nz (.Attribute o n pos) (tAttr cls n m) := by
  intro v av rv C ρ H P hm s ex mm Q E F LR R k
  show wpAny _ _ (do
    let ov ← holding [v] (eval o C.env)
    standAt pos.atName
    holding [v, ov] (setAttr ov n v)
    release [v, ov] []) _ _ _
  refine wpAny_bind (wpAny_holding (h C ρ H _ hm s ex mm _ E F LR R fun ov ao H₁ h₁' tk₁ ro hm₁ F₁ R₁ => ?_))
  refine wpAny_bind (wpAny_standAt (wpAny_bind (wpAny_holding (setAttr_ok (C := C) (s := { s with heap := h₁', toks := tk₁ }) hok ro rv F₁ R₁ hm₁ fun H' h' tk hP F' R' => ?_))))
  exact wpAny_release' (k _ _ h' tk _ hP F' LR R')
theorem simtg_sub {o i : Expr} {pos : Pos} {m₁ m₂ : ME} (h₁ : SimE V lv nm sc nz (eval o) m₁) (h₂ : SimE V lv nm sc nz (eval i) m₂) : SimTg V lv nm sc nz (.Subscript o i pos) (tSub m₁ m₂) := by
  intro v av rv C ρ H P hm s ex mm Q E F LR R k
  refine kas_sub ?_
  refine h₁ C ρ H _ hm s ex mm _ E F LR R fun ov ao H₁ h₁' tk₁ ro hm₁ F₁ R₁ => ?_
  refine h₂ C ρ H₁ _ hm₁ _ ex mm _ E F₁ LR R₁ fun iv ai H₂ h₂' tk₂ ri hm₂ F₂ R₂ => ?_
  exact setItem_ok (C := C) (s := { s with heap := h₂', toks := tk₂ }) ro ri rv F₂ R₂ hm₂ fun H' h' tk hP F' R' => k _ _ h' tk _ hP F' LR R'
theorem simtgs_length {es : List Expr} {ts : List Tg} (h : SimTgs V lv nm sc nz es ts) (env : Env) : (assignEach es env).length = ts.length ∧ (assignEach es env).findIdx? (·.1) = none := by
  induction h with
  | nil => exact ⟨rfl, rfl⟩
  | cons _ he _ ih =>
    rw [he]
    refine ⟨by simp [ih.1], ?_⟩
    rw [List.findIdx?_cons]
    simp [ih.2]
theorem simtgs_run {es : List Expr} {ts : List Tg} (h : SimTgs V lv nm sc nz es ts) : ∀ {xs : List Value} {vs : List AV}, VReps xs vs → SimU V lv nm sc nz (fun env => assignInOrder ((assignEach es env).map (·.2)) xs) (tEach ts vs) := by
  induction h with
  | nil =>
    intro xs vs rv C ρ H P hm s ex mm Q E F LR R k
    unfold tEach at hm
    exact wpAny_pure (k _ _ s.heap s.toks _ hm F LR R)
  | @cons e es t ts ht he hts ih =>
    intro xs vs rv C ρ H P hm s ex mm Q E F LR R k
    have hea : assignEach (e :: es) C.env = (false, assign e C.env) :: assignEach es C.env := he _
    show wpAny _ _ (assignInOrder ((assignEach (e :: es) C.env).map (·.2)) xs) _ _ _
    rw [hea]
    cases rv with
    | nil =>
      unfold tEach at hm
      exact wpAny_pure (k _ _ s.heap s.toks _ hm F LR R)
    | cons r rs =>
      refine assignInOrder_cons ?_
      refine ht _ _ r C ρ H _ hm s ex mm _ E F LR R fun ρ' H' h' tk mm' hm' F' LR' R' => ?_
      exact ih rs C ρ' H' _ hm' _ ex mm' _ E F' LR' R' fun ρ2 H2 h2 tk2 mm2 hm2 F2 LR2 R2 => k ρ2 H2 h2 tk2 mm2 hm2 F2 LR2 R2
theorem simtg_tup {es : List Expr} {n : Nat} {pos : Pos} {ts : List Tg} (h : SimTgs V lv nm sc nz es ts) : SimTg V lv nm sc nz (.Tuple es n pos) (tTup ts) := by
  intro v av rv C ρ H P hm s ex mm Q E F LR R k
  obtain ⟨l1, l2⟩ := simtgs_length h C.env
  show wpAny _ _ (assign (.Tuple es n pos) C.env v) _ _ _
  rw [assign_Tuple]
  refine wpAny_bind (wpAny_standAt ?_)
  unfold unpack
  rw [l1, l2]
  refine wpAny_bind (wpAny_holding (unpack_ok (C := C) rv F R hm fun xs vs h' r hl hk F' R' => ?_))
  exact simtgs_run h r C ρ H _ hk _ ex mm _ E F' LR R' fun ρ2 H2 h2 tk2 mm2 hm2 F2 LR2 R2 => k ρ2 H2 h2 tk2 mm2 hm2 F2 LR2 R2

/-! statements -/
noncomputable def sAssign (tg : Tg) (m : ME) : MS := fun ρ H P => m ρ H fun v H => tg v ρ H fun ρ H => P .next ρ H
theorem sims_assign {t value : Expr} {pos : Pos} {m : ME} {tg : Tg} (h : SimE V lv nm sc nz (eval value) m) (ht : SimTg V lv nm sc nz t tg)
    (hs : ∀ L a cd, swapsWithSole [t] value pos.line (envX nm sc L a cd V.cl) = pure false) (hw : ∀ L a cd, swappedStores [t] value (envX nm sc L a cd V.cl) = pure none) (ha : ∀ env, assignEach [t] env = [(false, assign t env)]) :
    SimS V lv nm sc nz (exec (.Assign [t] value pos)) (sAssign tg m) := by
  intro C ρ H P hm s ex mm Q E F LR R k
  show wpAny _ _ (exec (.Assign [t] value pos) C.env) _ _ _
  rw [PyProof.Rows.exec_Assign]
  refine wpAny_bind (wpAny_standAt ?_)
  rw [hs C.L C.a C.cd]
  refine wpAny_bind (wpAny_pure ?_)
  rw [if_neg (by decide)]
  refine wpAny_bind (h C ρ H _ hm s ex mm _ E F LR R fun v av H₁ h₁' tk₁ rv hm₁ F₁ R₁ => ?_)
  rw [hw C.L C.a C.cd]
  refine wpAny_bind (wpAny_pure ?_)
  rw [ha]
  show wpAny _ _ (do assignAll v [assign t C.env]; pure Flow.next) _ _ _
  refine wpAny_bind ?_
  exact ht v av rv C ρ H₁ _ hm₁ _ ex mm _ E F₁ LR R₁ fun ρ2 H2 h2 tk2 mm2 hm2 F2 LR2 R2 => wpAny_pure (k _ _ ρ2 H2 h2 tk2 mm2 .next hm2 F2 LR2 R2)
/-- the stores of two or three plain names go from behind -/
noncomputable def sSwap (is : List Nat) (m : ME) : MS := fun ρ H P => m ρ H fun v H => seqS v H is.length fun vs => tEach (is.reverse.map tName) vs.reverse ρ H fun ρ H => P .next ρ H
theorem simu_names {names : List Str} {is : List Nat} (hl : names.length = is.length) (hi : ∀ j, j < is.length → nz[is.getD j 0]? = names[j]?) (hn : nz.Nodup) (hk : sc.kind = .function) (hloc : ∀ x ∈ names, ∀ L a cd, (envOf nm sc L a cd).kindOf x = some .local) :
    ∀ {xs : List Value} {vs : List AV}, VReps xs vs → SimU V lv nm sc nz (fun env => assignInOrder (names.map fun n => bindName env n) xs) (tEach (is.map tName) vs) := by
  induction names generalizing is with
  | nil =>
    intro xs vs rv C ρ H P hm s ex mm Q E F LR R k
    have : is = [] := List.length_eq_zero_iff.mp hl.symm
    subst this
    unfold List.map tEach at hm
    exact wpAny_pure (k _ _ s.heap s.toks _ hm F LR R)
  | cons x names ih =>
    intro xs vs rv C ρ H P hm s ex mm Q E F LR R k
    cases is with
    | nil => cases hl
    | cons i is =>
      cases rv with
      | nil =>
        unfold List.map tEach at hm
        exact wpAny_pure (k _ _ s.heap s.toks _ hm F LR R)
      | cons r rs =>
        show wpAny _ _ (assignInOrder (bindName C.env x :: names.map fun n => bindName C.env n) _) _ _ _
        refine assignInOrder_cons (wpAny_bindName ?_)
        have hx : nz[i]? = some x := by simpa using hi 0 (by simp)
        refine wpAny_storeName_local (hloc x (.head _) C.L C.a C.cd) F.ns (fun h' hns hs => ?_) (by show (sc.kind == .class || (sc.kind == .module && C.L != mainGlobals)) = false; rw [hk]; rfl)
        exact ih (is := is) (by simpa using hl) (fun j hj => by simpa using hi (j + 1) (by simpa using hj)) (fun y hy => hloc y (.tail _ hy)) rs C _ H _ hm _ ex _ _ E (F.set hns hs) (LR.set hn hx r) (R.sameBut hs) fun ρ2 H2 h2 tk2 mm2 hm2 F2 LR2 R2 => k ρ2 H2 h2 tk2 mm2 hm2 F2 LR2 R2
theorem VReps.reverse {vs : List Value} {avs : List AV} (h : VReps vs avs) : VReps vs.reverse avs.reverse := by
  induction h with
  | nil => exact .nil
  | cons hv _ ih => rw [List.reverse_cons, List.reverse_cons]; exact ih.append (.cons hv .nil)
theorem sims_swap {t value : Expr} {pos : Pos} {m : ME} {names : List Str} {is : List Nat} (h : SimE V lv nm sc nz (eval value) m)
    (hs : ∀ L a cd, swapsWithSole [t] value pos.line (envX nm sc L a cd V.cl) = pure false) (hw : ∀ L a cd, swappedStores [t] value (envX nm sc L a cd V.cl) = pure (some names))
    (hl : names.length = is.length) (hi : ∀ j, j < is.reverse.length → nz[is.reverse.getD j 0]? = names.reverse[j]?) (hn : nz.Nodup) (hk : sc.kind = .function) (hloc : ∀ x ∈ names, ∀ L a cd, (envOf nm sc L a cd).kindOf x = some .local) :
    SimS V lv nm sc nz (exec (.Assign [t] value pos)) (sSwap is m) := by
  intro C ρ H P hm s ex mm Q E F LR R k
  show wpAny _ _ (exec (.Assign [t] value pos) C.env) _ _ _
  rw [PyProof.Rows.exec_Assign]
  refine wpAny_bind (wpAny_standAt ?_)
  rw [hs C.L C.a C.cd]
  refine wpAny_bind (wpAny_pure ?_)
  rw [if_neg (by decide)]
  refine wpAny_bind (h C ρ H _ hm s ex mm _ E F LR R fun v av H₁ h₁' tk₁ rv hm₁ F₁ R₁ => ?_)
  rw [hw C.L C.a C.cd]
  refine wpAny_bind (wpAny_pure ?_)
  show wpAny _ _ (do
      rule "assign.swapped-stores"
      let items ← unpackItems v names.length none
      assignInOrder (names.reverse.map fun n => bindName C.env n) items.reverse
      pure Flow.next) _ _ _
  refine wpAny_bind (wpAny_rule ?_)
  rw [hl]
  refine wpAny_bind (unpack_ok (C := C) (s := { s with heap := h₁', toks := tk₁ }) rv F₁ R₁ hm₁ fun xs vs h' r hlen hk' F' R' => ?_)
  refine wpAny_bind ?_
  exact simu_names (names := names.reverse) (is := is.reverse) (by simp [hl]) hi hn hk (fun x hx => hloc x (List.mem_reverse.mp hx)) r.reverse C ρ H₁ _ hk' _ ex mm _ E F' LR R' fun ρ2 H2 h2 tk2 mm2 hm2 F2 LR2 R2 => wpAny_pure (k _ _ ρ2 H2 h2 tk2 mm2 .next hm2 F2 LR2 R2)

noncomputable def sAugName (i : Nat) (op : Operator) (m : ME) : MS := fun ρ H P => mLoc i ρ H fun a H => m ρ H fun b H => match op, a, b with
  | .Add, .int x, .int y => P .next (ρ.set i (some (.int (x + y)))) H
  | _, _, _ => False
theorem aug_inv {op : Operator} {a b : AV} {ρ : Loc} {i : Nat} {H : AHeap} {P : PS} (h : match op, a, b with
  | .Add, .int x, .int y => P .next (ρ.set i (some (.int (x + y)))) H
  | _, _, _ => False) : ∃ x y, op = .Add ∧ a = .int x ∧ b = .int y ∧ P .next (ρ.set i (some (.int (x + y)))) H := by
  split at h
  · exact ⟨_, _, rfl, rfl, rfl, h⟩
  · exact h.elim
theorem sims_augName {x : Str} {npos pos : Pos} {op : Operator} {value : Expr} {i : Nat} {m : ME} (h : SimE V lv nm sc nz (eval value) m) (hx : nz[i]? = some x) (hn : nz.Nodup) (hk : sc.kind = .function) (hl : ∀ L a cd, (envOf nm sc L a cd).kindOf x = some .local) :
    SimS V lv nm sc nz (exec (.AugAssign (.Name x npos) op value pos)) (sAugName i op m) := by
  intro C ρ H P hm s ex mm Q E F LR R k
  refine wpAny_AugAssign_Name ?_
  unfold sAugName mLoc at hm
  split at hm
  · rename_i v hv
    obtain ⟨cv, h1, h2⟩ := LR.at_ i x v hx hv
    refine wpAny_loadName_local hk (hl C.L C.a C.cd) F.ns h1 ?_
    refine h C ρ H _ hm s ex mm _ E F LR R fun vb b H₁ h₁' tk₁ rb hm₁ F₁ R₁ => ?_
    obtain ⟨x, y, rfl, rfl, rfl, hm₁⟩ := aug_inv hm₁
    cases h2
    cases rb
    refine PyProof.Rows.iadd_int ?_
    refine wpAny_storeName_local (hl C.L C.a C.cd) F₁.ns (fun h' hns hs => ?_) (by show (sc.kind == .class || (sc.kind == .module && C.L != mainGlobals)) = false; rw [hk]; rfl)
    exact k _ _ _ _ h' _ _ .next hm₁ (F₁.set hns hs) (LR.set hn hx (.int _ _)) (R₁.sameBut hs)
  · exact hm.elim
noncomputable def sAugSub (m₁ m₂ m : ME) : MS := fun ρ H P => m₁ ρ H fun o H => m₂ ρ H fun i H => subS o i H fun old H => m ρ H fun b H => match old, b with
  | .int x, .int y => setS o i (.int (x + y)) H fun H => P .next ρ H
  | _, _ => False
theorem sims_augSub {o i : Expr} {spos pos : Pos} {value : Expr} {m₁ m₂ m : ME} (h₁ : SimE V lv nm sc nz (eval o) m₁) (h₂ : SimE V lv nm sc nz (eval i) m₂) (h : SimE V lv nm sc nz (eval value) m)
    (ha : ∀ ov iv new, augStore i ov iv new = (do holding [new, ov, iv] (setItem ov iv new); release [new, ov, iv] []; pure .next)) :
    SimS V lv nm sc nz (exec (.AugAssign (.Subscript o i spos) .Add value pos)) (sAugSub m₁ m₂ m) := by
  intro C ρ H P hm s ex mm Q E F LR R k
  refine wpAny_AugAssign_Subscript_any ?_ ha
  refine h₁ C ρ H _ hm s ex mm _ E F LR R fun ov ao H₁ h₁' tk₁ ro hm₁ F₁ R₁ => ?_
  refine h₂ C ρ H₁ _ hm₁ _ ex mm _ E F₁ LR R₁ fun iv ai H₂ h₂' tk₂ ri hm₂ F₂ R₂ => ?_
  refine (getItem_ok (C := C) (s := { s with heap := h₂', toks := tk₂ }) ro ri R₂ hm₂ fun old aold rold hP => ?_).1
  refine h C ρ H₂ _ hP _ ex mm _ E F₂ LR R₂ fun vb b H₃ h₃' tk₃ rb hm₃ F₃ R₃ => ?_
  cases rold <;> cases rb <;> try exact hm₃.elim
  refine PyProof.Rows.iadd_int ?_
  exact setItem_ok (C := C) (s := { s with heap := h₃', toks := tk₃ + 1 }) ro ri (.int _ _) F₃ R₃ hm₃ fun H' h' tk hP F' R' => k _ _ _ _ h' tk _ .next hP F' LR R'
noncomputable def sExpr (m : ME) : MS := fun ρ H P => m ρ H fun _ H => P .next ρ H
theorem wpAny_dropAny {prog : Program} {w : World} {A : Around} {E : Value → Shared → Prop} {s : Shared} {e : Expr} {pos : Pos} {v : Value} {Q : Flow → Shared → Prop} (h : Q .next s) : wpAny (model prog w) A (dropValue e pos v) Q E s := by
  unfold dropValue
  split
  · exact wpAny_pure h
  · exact wpAny_bind (wpAny_standAt (wpAny_bind (wpAny_runValue (codeAny_builtin entry_let_go (show wpAny _ _ (ret .none) _ _ s from wpAny_pure (wpAny_pure h))))))
  · exact wpAny_pure h
theorem sims_expr {e : Expr} {pos : Pos} {m : ME} (h : SimE V lv nm sc nz (eval e) m) (hi : ∀ L a cd, interactive (envX nm sc L a cd V.cl) = false) (hs : ∀ L a cd, swapsWith e none pos.line (envX nm sc L a cd V.cl) = pure false) :
    SimS V lv nm sc nz (exec (.Expr e pos)) (sExpr m) := by
  intro C ρ H P hm s ex mm Q E F LR R k
  show wpAny _ _ (exec (.Expr e pos) C.env) _ _ _
  rw [exec_Expr C.env e pos (hi _ _ _) (hs _ _ _)]
  refine wpAny_bind (wpAny_standAt (wpAny_bind (h C ρ H _ hm s ex mm _ E F LR R fun v av H₁ h₁' tk₁ rv hm₁ F₁ R₁ => ?_)))
  exact wpAny_dropAny (k _ _ _ _ h₁' tk₁ _ .next hm₁ F₁ LR R₁)
noncomputable def sRet (m : ME) : MS := fun ρ H P => m ρ H fun v H => P (.ret v) ρ H
theorem sims_ret {e : Expr} {pos : Pos} {m : ME} (h : SimE V lv nm sc nz (eval e) m) : SimS V lv nm sc nz (exec (.Return (some e) pos)) (sRet m) := by
  intro C ρ H P hm s ex mm Q E F LR R k
  exact wpAny_Return_some (h C ρ H _ hm s ex mm _ E F LR R fun v av H₁ h₁' tk₁ rv hm₁ F₁ R₁ => k _ _ _ _ h₁' tk₁ _ (.ret rv) hm₁ F₁ LR R₁)
noncomputable def sRet0 : MS := fun ρ H P => P (.ret .none) ρ H
theorem sims_ret0 {pos : Pos} : SimS V lv nm sc nz (exec (.Return none pos)) sRet0 := by
  intro C ρ H P hm s ex mm Q E F LR R k
  exact wpAny_Return_none (k _ _ _ _ s.heap s.toks _ (.ret .none) hm F LR R)
noncomputable def sNil : MS := fun ρ H P => P .next ρ H
noncomputable def sSeq (m₁ m₂ : MS) : MS := fun ρ H P => m₁ ρ H fun fl ρ H => match fl with
  | .next => m₂ ρ H P
  | .brk => P .brk ρ H
  | .cont => P .cont ρ H
  | .ret v => P (.ret v) ρ H
theorem sims_nil : SimS V lv nm sc nz (execs []) sNil := by
  intro C ρ H P hm s ex mm Q E F LR R k
  exact wpAny_execs_nil (k _ _ _ _ s.heap s.toks _ .next hm F LR R)
theorem sims_cons {st : Stmt} {rest : List Stmt} {m₁ m₂ : MS} (h₁ : SimS V lv nm sc nz (exec st) m₁) (h₂ : SimS V lv nm sc nz (execs rest) m₂) : SimS V lv nm sc nz (execs (st :: rest)) (sSeq m₁ m₂) := by
  intro C ρ H P hm s ex mm Q E F LR R k
  refine wpAny_execs_cons (h₁ C ρ H _ hm s ex mm _ E F LR R fun f fl ρ' H' h' tk mm' rf hP F' LR' R' => ?_)
  cases rf with
  | next => exact h₂ C ρ' H' _ hP _ ex mm' _ E F' LR' R' fun f fl ρ2 H2 h2 tk2 mm2 rf2 hP2 F2 LR2 R2 => k f fl ρ2 H2 h2 tk2 mm2 rf2 hP2 F2 LR2 R2
  | brk => exact k _ _ ρ' H' h' tk mm' .brk hP F' LR' R'
  | cont => exact k _ _ ρ' H' h' tk mm' .cont hP F' LR' R'
  | ret r => exact k _ _ ρ' H' h' tk mm' (.ret r) hP F' LR' R'
noncomputable def sIf (t : MT) (m₁ m₂ : MS) : MS := fun ρ H P => t ρ H fun b H => match b with
  | true => m₁ ρ H P
  | false => m₂ ρ H P
theorem sims_if {test : Expr} {body orelse : List Stmt} {pos : Pos} {t : MT} {m₁ m₂ : MS} (ht : SimC V lv nm sc nz test t) (h₁ : SimS V lv nm sc nz (execs body) m₁) (h₂ : SimS V lv nm sc nz (execs orelse) m₂) :
    SimS V lv nm sc nz (exec (.If test body orelse pos)) (sIf t m₁ m₂) := by
  intro C ρ H P hm s ex mm Q E F LR R k
  refine wpAny_If (ht C ρ H _ hm s ex mm _ E F LR R fun v av H₁ h₁' tk₁ rv hm₁ F₁ R₁ => ?_)
  subst rv
  cases v with
  | true => exact h₁ C ρ H₁ _ hm₁ _ ex mm _ E F₁ LR R₁ fun f fl ρ2 H2 h2 tk2 mm2 rf2 hP2 F2 LR2 R2 => k f fl ρ2 H2 h2 tk2 mm2 rf2 hP2 F2 LR2 R2
  | false => exact h₂ C ρ H₁ _ hm₁ _ ex mm _ E F₁ LR R₁ fun f fl ρ2 H2 h2 tk2 mm2 rf2 hP2 F2 LR2 R2 => k f fl ρ2 H2 h2 tk2 mm2 rf2 hP2 F2 LR2 R2
/-- a raise: not come to -/
theorem sims_raise {e c : Option Expr} {pos : Pos} : SimS V lv nm sc nz (exec (.Raise e c pos)) (fun _ _ _ => False) := fun _ _ _ _ hm => hm.elim

/-! loops -/
noncomputable def whileW (t : MT) (body : MS) : Nat → MS
  | 0, _, _, _ => False
  | n + 1, ρ, H, P => t ρ H fun b H => match b with
    | false => P .next ρ H
    | true => body ρ H fun fl ρ H => match fl with
      | .next => whileW t body n ρ H P
      | .cont => whileW t body n ρ H P
      | .brk => P .next ρ H
      | .ret v => P (.ret v) ρ H
noncomputable def sWhile (t : MT) (body : MS) : MS := fun ρ H P => ∃ n, whileW t body n ρ H P
theorem sims_while {test : Expr} {body : List Stmt} {pos : Pos} {t : MT} {m : MS} (ht : SimC V lv nm sc nz test t) (hb : SimS V lv nm sc nz (execs body) m) : SimS V lv nm sc nz (exec (.While test body [] pos)) (sWhile t m) := by
  intro C ρ H P hm s ex mm Q E F LR R k
  obtain ⟨n, hm⟩ := hm
  refine wpAny_While (codeAny_whileLoop (R := fun r s' => match r with | .ok f => Q f s' | .error e => cameBackBy (model V.prog V.w) C.A C.env E e s')
    (fun n s' => ∃ ρ H h tk mm, s' = { s with heap := h, toks := tk } ∧ whileW t m n ρ H P ∧ Fr C.h₀ C.L h mm ∧ LocR nz mm ρ ∧ RepN C.h₀ C.L h ex H) ?_ n ⟨ρ, H, s.heap, s.toks, mm, rfl, hm, F, LR, R⟩)
  rintro n s' ⟨ρ, H, h, tk, mm, rfl, hm, F, LR, R⟩
  cases n with
  | zero => exact hm.elim
  | succ n =>
    refine ht C ρ H _ hm _ ex mm _ _ F LR R fun v av H₁ h₁' tk₁ rv hm₁ F₁ R₁ => ?_
    subst rv
    cases v with
    | false => exact wpAny_execs_nil (k _ _ ρ H₁ h₁' tk₁ mm .next hm₁ F₁ LR R₁)
    | true =>
      refine hb C ρ H₁ _ hm₁ _ ex mm _ _ F₁ LR R₁ fun f fl ρ2 H2 h2 tk2 mm2 rf hP F2 LR2 R2 => ?_
      cases rf with
      | next => exact ⟨n, Nat.lt_succ_self n, ρ2, H2, h2, tk2, mm2, rfl, hP, F2, LR2, R2⟩
      | cont => exact ⟨n, Nat.lt_succ_self n, ρ2, H2, h2, tk2, mm2, rfl, hP, F2, LR2, R2⟩
      | brk => exact k _ _ ρ2 H2 h2 tk2 mm2 .next hP F2 LR2 R2
      | ret r => exact k _ _ ρ2 H2 h2 tk2 mm2 (.ret r) hP F2 LR2 R2

noncomputable def afterTurn (rest : Loc → AHeap → Prop) (P : PS) : PS := fun fl ρ H => match fl with
  | .next => rest ρ H
  | .cont => rest ρ H
  | .brk => P .next ρ H
  | .ret v => P (.ret v) ρ H
noncomputable def forL (tg : Tg) (body : MS) (l : Addr) (vs : List AV) : List AV → Loc → AHeap → PS → Prop
  | [], ρ, H, P => H l = some (.list vs) ∧ P .next ρ H
  | v :: r, ρ, H, P => H l = some (.list vs) ∧ tg v ρ H fun ρ H => body ρ H (afterTurn (fun ρ H => forL tg body l vs r ρ H P) P)
noncomputable def sFor (tg : Tg) (m : ME) (body : MS) : MS := fun ρ H P => m ρ H fun v H => match v with
  | .ref l => ∃ vs, H l = some (.list vs) ∧ forL tg body l vs vs ρ H P
  | _ => False
theorem owned_none {prog : Program} {w : World} {A : Around} {E : Value → Shared → Prop} {s : Shared} {target : Expr} {I : Addr} {v : Value} {o : Obj} {Q : Unit → Shared → Prop} (ho : s.heap.get? I = some o) (hc : o.cls = .type "list_iterator") (h : Q () s) :
    wpAny (model prog w) A (letOwnedTupleGo target (.ref I) v) Q E s := by
  have body : wpAny (model prog w) A (do
      let (.ref r, .ref a) := ((.ref I, v) : Value × Value) | return
      let o ← load r
      match o.cls, o.data with
      | .type n, .fields vs =>
        if ["enumerate", "zip", "dict_itemiterator", "dict_reverseitemiterator", "odict_iterator", "itertools.zip_longest", "itertools.pairwise"].contains n && vs[0]? == some (rawInt a) then
          rule "for.unpacks-the-owned-tuple"
          updateField r 0 .none
      | _, _ => pure () : Sem Unit) Q E s := by
    cases v with
    | ref a =>
      refine wpAny_bind (wpAny_load ho ?_)
      obtain ⟨oc, od, oda, osl⟩ := o
      simp only at hc
      subst hc
      cases oda with
      | fields vs =>
        refine wpAny_ite_split (fun hab => ?_) (fun _ => wpAny_pure h)
        rw [Bool.and_eq_true] at hab
        exact absurd hab.1 (by decide)
      | _ => exact wpAny_pure h
    | _ => exact wpAny_pure h
  unfold letOwnedTupleGo
  split
  · exact body
  · exact body
  · exact wpAny_pure h
theorem sims_for {target iter : Expr} {body : List Stmt} {pos : Pos} {tg : Tg} {m : ME} {mb : MS} (hi : SimE V lv nm sc nz (eval iter) m) (ht : SimTg V lv nm sc nz target tg) (hb : SimS V lv nm sc nz (execs body) mb) (hs : ∀ env x, foldedSetIterable iter env x = pure x) :
    SimS V lv nm sc nz (exec (.For target iter body [] pos)) (sFor tg m mb) := by
  intro C ρ H P hm s ex mm Q E F LR R k
  refine wpAny_For (hi C ρ H _ hm s ex mm _ E F LR R fun v av H₁ h₁ tk₁ rv hm₁ F₁ R₁ => ?_) (hs _)
  cases rv with
  | ref l =>
    obtain ⟨vs, e, hm₁⟩ := hm₁
    obtain ⟨its, hl, rr⟩ := R₁.isList e
    refine wpAny_pyIter_list (s := { s with heap := h₁, toks := tk₁ }) hl ?_
    obtain ⟨R₂, hne⟩ := R₁.pushEx F₁ (o := { cls := .type "list_iterator", data := .fields #[.ref l, .int 0 0] }) rfl
    have F₂ := F₁.push { cls := .type "list_iterator", data := .fields #[.ref l, .int 0 0] }
    generalize hI : h₁.objs.size = I at R₂ hne
    have nIL : I ≠ C.L := (R₂.getEx (.head _)).2.1
    have nI0 : C.h₀.get? I = none := (R₂.getEx (.head _)).2.2
    refine codeAny_forLoop_any (R := fun r s' => match r with | .ok f => Q f s' | .error e => cameBackBy (model V.prog V.w) C.A C.env E e s')
      (fun n s' => ∃ ρ H h tk mm rest co i, s' = { s with heap := h, toks := tk } ∧ n = rest.length ∧ vs.drop i = rest ∧ forL tg mb l vs rest ρ H P ∧ Fr C.h₀ C.L h mm ∧ LocR nz mm ρ ∧ RepN C.h₀ C.L h ((I, co) :: ex) H ∧ co.cls = .type "list_iterator" ∧ co.data = .fields #[.ref l, .int (i : Nat) 0])
      ?_ vs.length ⟨ρ, H₁, _, tk₁, mm, vs, _, 0, rfl, rfl, rfl, hm₁, F₂, LR, R₂, rfl, rfl⟩
    rintro n s' ⟨ρ, H, h, tk, mm, rest, co, i, rfl, rfl, hdrop, hm, F, LR, R, hc, hd⟩
    have hH : H l = some (.list vs) := by
      cases rest with
      | nil => exact hm.1
      | cons v r => exact hm.1
    obtain ⟨its, hl, rr⟩ := R.isList hH
    have hit : h.IsListIter I l i := ⟨co, (R.getEx (.head _)).1, hc, hd⟩
    cases rest with
    | nil =>
      have hnone : its.toArray[i]? = none := by
        have : vs.length ≤ i := by
          have := congrArg List.length hdrop
          simp at this; omega
        simp; rw [rr.length]; exact this
      refine wpAny_pyNext_list_end (s := { s with heap := h, toks := tk }) C.hh hit hl hnone fun h' he => wpAny_execs_nil ?_
      exact k _ _ ρ H h' tk mm .next hm.2 (Fr.ext F he nIL nI0) LR (R.drop he hne)
    | cons v r =>
      have hv : vs[i]? = some v := by
        have := congrArg (fun l : List AV => l[0]?) hdrop
        simpa using this
      obtain ⟨cv, hcv, rcv⟩ := rr.get hv
      refine wpAny_pyNext_list_item (s := { s with heap := h, toks := tk }) hit hl (by simpa using hcv) fun h' hit' hs' => ?_
      obtain ⟨co', hco', hc', hd'⟩ := hit'
      have R' := R.extra hs' hco' hne
      have F' : Fr C.h₀ C.L h' mm := F.change hs' nIL nI0
      refine owned_none (s := { s with heap := h', toks := tk }) hco' hc' ?_
      refine ht cv v rcv C ρ H _ hm.2 _ ((I, co') :: ex) mm _ _ F' LR R' fun ρ2 H2 h2 tk2 mm2 hm2 F2 LR2 R2 => ?_
      refine hb C ρ2 H2 _ hm2 _ ((I, co') :: ex) mm2 _ _ F2 LR2 R2 fun f fl ρ3 H3 h3 tk3 mm3 rf hP F3 LR3 R3 => ?_
      have hdrop' : vs.drop (i + 1) = r := by
        rw [← List.drop_drop, hdrop]; rfl
      cases rf with
      | next => exact ⟨r.length, Nat.lt_succ_self _, ρ3, H3, h3, tk3, mm3, r, co', i + 1, rfl, rfl, hdrop', hP, F3, LR3, R3, hc', by simpa using hd'⟩
      | cont => exact ⟨r.length, Nat.lt_succ_self _, ρ3, H3, h3, tk3, mm3, r, co', i + 1, rfl, rfl, hdrop', hP, F3, LR3, R3, hc', by simpa using hd'⟩
      | brk => exact k _ _ ρ3 H3 h3 tk3 mm3 .next hP F3 LR3 (R3.less fun p hp => .tail _ hp)
      | ret q => exact k _ _ ρ3 H3 h3 tk3 mm3 (.ret q) hP F3 LR3 (R3.less fun p hp => .tail _ hp)
  | _ => exact hm₁.elim

/-! a range -/
noncomputable def forR (tg : Tg) (body : MS) : List Int → Loc → AHeap → PS → Prop
  | [], ρ, H, P => P .next ρ H
  | x :: r, ρ, H, P => tg (.int x) ρ H fun ρ H => body ρ H (afterTurn (fun ρ H => forR tg body r ρ H P) P)
noncomputable def upList (a : Int) : Nat → List Int
  | 0 => []
  | n + 1 => a :: upList (a + 1) n
noncomputable def downList (a : Int) : Nat → List Int
  | 0 => []
  | n + 1 => a :: downList (a - 1) n
noncomputable def rangeS (vs : List AV) (k : List Int → Prop) : Prop := match vs with
  | [.int n] => n < 2 ^ 40 ∧ -(2 ^ 40) < n ∧ k (upList 0 n.toNat)
  | [.int a, .int b, .int c] => b = -1 ∧ c = -1 ∧ a < 2 ^ 40 ∧ -(2 ^ 40) < a ∧ k (downList a (a + 1).toNat)
  | _ => False
noncomputable def sForR (tg : Tg) (ms : MA) (body : MS) : MS := fun ρ H P => ms ρ H fun vs H => rangeS vs fun ks => forR tg body ks ρ H P
noncomputable def stepList (a c : Int) : Nat → List Int
  | 0 => []
  | n + 1 => a :: stepList (a + c) c n
theorem stepList_up (a : Int) : ∀ n, stepList a 1 n = upList a n
  | 0 => rfl
  | n + 1 => by unfold stepList upList; rw [stepList_up (a + 1) n]
theorem stepList_down (a : Int) : ∀ n, stepList a (-1) n = downList a n
  | 0 => rfl
  | n + 1 => by unfold stepList downList; rw [stepList_down (a + -1) n]; rfl
/-- the loop proper -/
theorem forR_loop {C : FC V lv nm sc} {target : Expr} {body : List Stmt} {tg : Tg} {mb : MS} (ht : SimTg V lv nm sc nz target tg) (hb : SimS V lv nm sc nz (execs body) mb) {ρ : Loc} {H : AHeap} {P : PS} {s : Shared} {ex : List (Addr × Obj)} {mm : Str → Option Value} {Q : Flow → Shared → Prop} {E : Value → Shared → Prop}
    {r : Addr} {a b c : Int} {t u v : Tok} {n : Nat} (hr : IsRange s.heap r a b c t u v) (hsm : Builtin.Range.small a b c = true) (hn : Builtin.Range.rangeSize a b c = (n : Int)) (hto : ∀ it v, letOwnedTupleGo target it v = pure ())
    (hm : forR tg mb (stepList a c n) ρ H P) (F : Fr C.h₀ C.L s.heap mm) (LR : LocR nz mm ρ) (R : RepN C.h₀ C.L s.heap ex H)
    (k : ∀ f fl ρ' H' h' tk mm', FRep f fl → P fl ρ' H' → Fr C.h₀ C.L h' mm' → LocR nz mm' ρ' → RepN C.h₀ C.L h' ex H' → Q f { s with heap := h', toks := tk }) :
    wpAny (model V.prog V.w) C.A (pyIter (.ref r)) (fun it s₂ => codeAny (model V.prog V.w) C.A (.forLoop target it body [] C.env) (fun r s' => match r with | .ok f => Q f s' | .error e => cameBackBy (model V.prog V.w) C.A C.env E e s') s₂) E s := by
  refine wpAny_pyIter_range hr hsm ?_
  obtain ⟨R₂, hne⟩ := R.pushEx F (o := { cls := .type "range_iterator", data := .fields #[rawInt a, rawInt (Builtin.Range.rangeSize a b c), rawInt c] }) rfl
  have F₂ := F.push { cls := .type "range_iterator", data := .fields #[rawInt a, rawInt (Builtin.Range.rangeSize a b c), rawInt c] }
  have hit₀ : IsRangeIter (s.heap.push { cls := .type "range_iterator", data := .fields #[rawInt a, rawInt (Builtin.Range.rangeSize a b c), rawInt c] }) s.heap.objs.size a (n : Int) c := by
    rw [hn]; exact Heap.get?_push_size _ rfl
  generalize hI : s.heap.objs.size = I at R₂ hne hit₀
  have nIL : I ≠ C.L := (R₂.getEx (.head _)).2.1
  have nI0 : C.h₀.get? I = none := (R₂.getEx (.head _)).2.2
  refine codeAny_forLoop_any (R := fun r s' => match r with | .ok f => Q f s' | .error e => cameBackBy (model V.prog V.w) C.A C.env E e s')
    (fun n s' => ∃ ρ H h tk mm co a, s' = { s with heap := h, toks := tk } ∧ forR tg mb (stepList a c n) ρ H P ∧ Fr C.h₀ C.L h mm ∧ LocR nz mm ρ ∧ RepN C.h₀ C.L h ((I, co) :: ex) H ∧ IsRangeIter h I a (n : Int) c)
    ?_ n ⟨ρ, H, _, s.toks, mm, _, a, rfl, hm, F₂, LR, R₂, hit₀⟩
  rintro n s' ⟨ρ, H, h, tk, mm, co, a, rfl, hm, F, LR, R, hit⟩
  cases n with
  | zero =>
    refine wpAny_pyNext_range_end (s := { s with heap := h, toks := tk }) C.hh hit (by simp) fun h' he => wpAny_execs_nil ?_
    exact k _ _ ρ H h' tk mm .next hm (Fr.ext F he nIL nI0) LR (R.drop he hne)
  | succ n =>
    refine wpAny_pyNext_range_item (s := { s with heap := h, toks := tk }) hit (by omega) fun h' hit' hs' => ?_
    have hco' := hit'
    have R' := R.extra hs' hco' hne
    have F' : Fr C.h₀ C.L h' mm := F.change hs' nIL nI0
    dsimp only
    rw [hto]
    refine wpAny_pure ?_
    refine ht _ _ (.int _ _) C ρ H _ hm _ _ mm _ _ F' LR R' fun ρ2 H2 h2 tk2 mm2 hm2 F2 LR2 R2 => ?_
    refine hb C ρ2 H2 _ hm2 _ _ mm2 _ _ F2 LR2 R2 fun f fl ρ3 H3 h3 tk3 mm3 rf hP F3 LR3 R3 => ?_
    have hit3 : IsRangeIter h3 I (a + c) (n : Int) c := by
      have := (R3.getEx (.head _)).1
      have e : ((n + 1 : Nat) : Int) - 1 = (n : Int) := by omega
      rw [e] at this
      exact this
    cases rf with
    | next => exact ⟨n, Nat.lt_succ_self _, ρ3, H3, h3, tk3, mm3, _, a + c, rfl, hP, F3, LR3, R3, hit3⟩
    | cont => exact ⟨n, Nat.lt_succ_self _, ρ3, H3, h3, tk3, mm3, _, a + c, rfl, hP, F3, LR3, R3, hit3⟩
    | brk => exact k _ _ ρ3 H3 h3 tk3 mm3 .next hP F3 LR3 (R3.less fun p hp => .tail _ hp)
    | ret q => exact k _ _ ρ3 H3 h3 tk3 mm3 (.ret q) hP F3 LR3 (R3.less fun p hp => .tail _ hp)
theorem sims_forR {target : Expr} {npos ipos pos : Pos} {e : Expr} {es : List Expr} {body : List Stmt} {tg : Tg} {ms : MA} {mb : MS} (hg : nsIn V.K mainGlobals "range" = some none) (hs : SimL V lv nm sc nz ipos (e :: es) ms) (ht : SimTg V lv nm sc nz target tg) (hb : SimS V lv nm sc nz (execs body) mb)
    (hk : sc.kind = .function) (hl : ∀ L a cd, (envOf nm sc L a cd).kindOf "range" = some .globalImplicit)
    (hstar : ∀ env, starEach (e :: es) env = (false, eval e env) :: starEach es env) (hplain : ∀ env, (backTo ipos (starEach es env)).any (·.1) = false) (hto : ∀ it v, letOwnedTupleGo target it v = pure ()) (hf : ∀ env x, foldedSetIterable (.Call (.Name "range" npos) (e :: es) [] ipos) env x = pure x) :
    SimS V lv nm sc nz (exec (.For target (.Call (.Name "range" npos) (e :: es) [] ipos) body [] pos)) (sForR tg ms mb) := by
  intro C ρ H P hm s ex mm Q E F LR R k
  refine wpAny_For ?_ (hf _)
  refine Call_ (nameX_B F C.X (topRead_of C.T) hg PyProof.Rows.boot_range (by decide) ?_ hk (hl C.L C.a C.cd) (by decide))
  refine Pv.callWith_type1 ?_ (hstar _) (hplain _)
  refine hs C ρ H _ hm s ex mm _ E F LR R fun vals avs H₁ h₁ tk₁ rvs hm₁ F₁ R₁ => ?_
  unfold rangeS at hm₁
  split at hm₁
  · rename_i n
    obtain ⟨z1, z2, hm₁⟩ := hm₁
    cases rvs with | cons r rs =>
    cases rs
    cases r with | int _ t =>
    refine call_range_1 (s := { s with heap := h₁, toks := tk₁ }) ?_
    refine forR_loop (C := C) (n := n.toNat) (a := 0) (b := n) (c := 1) ht hb (Heap.get?_push_size _ rfl) ?_ ?_ hto (by rw [stepList_up]; exact hm₁) (F₁.push _) LR (R₁.push _) fun f fl ρ' H' h' tk mm' rf hP F' LR' R' => k f fl ρ' H' h' tk mm' rf hP F' LR' R'
    · unfold Builtin.Range.small Builtin.Range.rangeFitsLong Builtin.Range.rangeSize
      by_cases q : 0 < n
      · simp [q]; omega
      · simp [q]; omega
    · unfold Builtin.Range.rangeSize
      by_cases q : 0 < n
      · simp [q]; omega
      · simp [q]; omega
  · rename_i a b c
    obtain ⟨rfl, rfl, z1, z2, hm₁⟩ := hm₁
    cases rvs with | cons r1 rs =>
    cases rs with | cons r2 rs =>
    cases rs with | cons r3 rs =>
    cases rs
    cases r1 with | int _ t1 =>
    cases r2 with | int _ t2 =>
    cases r3 with | int _ t3 =>
    refine call_range_3 (s := { s with heap := h₁, toks := tk₁ }) (by decide) ?_ (Or.inl (PyProof.noPylong_small (by decide)))
    refine forR_loop (C := C) (n := (a + 1).toNat) (a := a) (b := -1) (c := -1) ht hb (Heap.get?_push_size _ rfl) ?_ ?_ hto (by rw [stepList_down]; exact hm₁) (F₁.push _) LR (R₁.push _) fun f fl ρ' H' h' tk mm' rf hP F' LR' R' => k f fl ρ' H' h' tk mm' rf hP F' LR' R'
    · unfold Builtin.Range.small Builtin.Range.rangeFitsLong Builtin.Range.rangeSize
      by_cases q : a > -1
      · simp [q]; omega
      · simp [q]; omega
    · unfold Builtin.Range.rangeSize
      by_cases q : a > -1
      · simp [q]; omega
      · simp [q]; omega
  · exact hm₁.elim
end
end
section
set_option genSizeOf false
set_option genSizeOfSpec false
set_option maxRecDepth 100000
/-! closed side conditions -/
noncomputable def plainE : Expr → Bool
  | .Starred _ _ => false
  | _ => true
noncomputable def plainAll (es : List Expr) : Bool := es.all plainE
noncomputable def notCall : Expr → Bool
  | .Call _ _ _ _ => false
  | _ => true
theorem base_of {o : Expr} {n : Str} {env : Env} {t : Sem Value} (h : notCall o = true) : attributeBase o n env t = t := by
  cases o <;> first | rfl | cases h
theorem star_of {e : Expr} {es : List Expr} (h : plainE e = true) (env : Env) : starEach (e :: es) env = (false, eval e env) :: starEach es env := by
  cases e <;> first | rfl | cases h
theorem stars_of : ∀ {es : List Expr}, plainAll es = true → ∀ env, (starEach es env).any (·.1) = false
  | [], _, _ => rfl
  | e :: es, h, env => by
    unfold plainAll at h
    rw [List.all_cons, Bool.and_eq_true] at h
    rw [star_of h.1, List.any_cons, stars_of h.2 env]
    rfl
theorem backs_of {es : List Expr} (h : plainAll es = true) (pos : Pos) (env : Env) : (backTo pos (starEach es env)).any (·.1) = false := by
  have : (backTo pos (starEach es env)).any (·.1) = (starEach es env).any (·.1) := by
    unfold backTo
    rw [List.any_map]
    rfl
  rw [this]; exact stars_of h env
theorem asg_of {e : Expr} {es : List Expr} (h : plainE e = true) (env : Env) : assignEach (e :: es) env = (false, assign e env) :: assignEach es env := by
  cases e <;> first | rfl | cases h
theorem meth_of {o : Expr} {n : Str} {apos pos : Pos} {es : List Expr} (ho : notCall o = true) (hes : plainAll es = true) (hl : es.length < 29) (hp : (apos.endLine == pos.line) = true) (env : Env) :
    ∃ pl, eval (.Call (.Attribute o n apos) es [] pos) env = (do
      let ov ← eval o env
      standAt apos.atName
      let (f, first) ← holding [ov] (getMethod ov n pl)
      callWith pos f first (backTo pos (starEach es env)) []) := by
  have hform : methodCallForm (es.length + ([] : List Keyword).length) (backTo pos (starEach es env)) (backToKw pos (keywordEach [] env)) = true := by
    unfold methodCallForm
    have h1 : ((backTo pos (starEach es env)).all fun x => !x.1) = true := by
      have := backs_of hes pos env
      rw [List.any_eq_false] at this
      rw [List.all_eq_true]
      intro x hx
      simpa using this x hx
    rw [h1]
    have h2 : ((backToKw pos (keywordEach [] env)).all fun x => x.1.isSome) = true := rfl
    rw [h2]
    have h3 : (backToKw pos (keywordEach [] env)).isEmpty = true := rfl
    rw [if_pos h3]
    simp
    omega
  have hpos : methodCallPos true o env apos pos = pure pos := by unfold methodCallPos; simp [hp]
  refine ⟨(do return (← importBound o env).getD true), ?_⟩
  rw [arm_eval_Call, base_of ho]
  unfold methodCall
  rw [hform, hpos]
  rfl
theorem attr_of {o : Expr} {n : Str} {pos : Pos} (ho : notCall o = true) (env : Env) : eval (.Attribute o n pos) env = (do
      let ov ← eval o env
      standAt pos.atName
      let r ← holding [ov] (getAttr ov n true)
      letTemporaryGo o ov r
      pure r) := by rw [arm_eval_Attribute, base_of ho]
noncomputable def plainT : Expr → Bool
  | .Name _ _ => true
  | .Call _ _ _ _ => true
  | .Attribute _ _ _ => true
  | .Subscript _ _ _ => true
  | .Constant _ _ _ => true
  | _ => false
theorem test_of {e : Expr} (h : plainT e = true) (env : Env) (whole : Sem Value) : isTrue e env whole = (do let v ← whole; standAt e.pos; holding [v] (truthy v)) := by
  cases e <;> first | rfl | cases h
noncomputable def notSet : Expr → Bool
  | .Set _ _ _ => false
  | _ => true
theorem behind_of {op : CmpOp} {e : Expr} (h : notSet e = true) : behindInMarks op e = false := by
  cases e <;> first | rfl | cases h
theorem fold_of {e : Expr} (h : notSet e = true) (env : Env) (x : Value) : foldedSetIterable e env x = pure x := by
  cases e <;> first | rfl | cases h
noncomputable def notComp : Expr → Bool
  | .ListComp _ _ _ _ => false
  | .SetComp _ _ _ _ => false
  | .DictComp _ _ _ _ _ => false
  | _ => true
theorem swaps_of {t value : Expr} {n : Nat} (h : notComp value = true) (env : Env) : swapsWithSole [t] value n env = pure false := by
  show swapsWith value (some t) n env = _
  cases value <;> first | rfl | cases h
theorem swapw_of {value : Expr} {n : Nat} (h : notComp value = true) (env : Env) : swapsWith value none n env = pure false := by
  cases value <;> first | rfl | cases h
noncomputable def notTup : Expr → Bool
  | .Tuple _ _ _ => false
  | .List _ _ => false
  | _ => true
noncomputable def notBigTup : Expr → Bool
  | .Tuple ts _ _ => !(ts.length == 2 || ts.length == 3)
  | .List _ _ => false
  | _ => true
theorem swapb_of {t value : Expr} (h : notBigTup t = true) (env : Env) : swappedStores [t] value env = pure none := by
  cases t <;> first
    | rfl
    | (cases h; done)
    | (rename_i ts n p
       have h : (!(ts.length == 2 || ts.length == 3)) = true := h
       cases value <;> first
         | rfl
         | (unfold swappedStores
            simp only [h, Bool.true_or, if_true]))
noncomputable def notTuple : Expr → Bool
  | .Tuple _ _ _ => false
  | _ => true
theorem swapv_of {t value : Expr} (h : notTuple value = true) (env : Env) : swappedStores [t] value env = pure none := by
  cases t <;> first
    | rfl
    | (cases value <;> first
        | rfl
        | (cases h; done))
noncomputable def noOwn : Expr → Bool
  | .Tuple _ _ _ => false
  | .List _ _ => false
  | _ => true
theorem own_of {t : Expr} (h : noOwn t = true) (it v : Value) : letOwnedTupleGo t it v = pure () := by
  cases t <;> first | rfl | cases h
noncomputable def notSlice : Expr → Bool
  | .Slice _ _ _ _ => false
  | _ => true
theorem aug_of {i : Expr} (h : notSlice i = true) (ov iv new : Value) : augStore i ov iv new = (do holding [new, ov, iv] (setItem ov iv new); release [new, ov, iv] []; pure .next) := by
  cases i <;> first | rfl | cases h

/-! what stands in the world -/
noncomputable def GInt (V : Wd) (x : Str) (i : Int) : Prop := ∃ t, nsIn V.K mainGlobals x = some (some (.int i t))
noncomputable def GBi (V : Wd) (x : Str) (f : Value) : Prop := nsIn V.K mainGlobals x = some none ∧ bootBuiltins x = some f ∧ x ≠ "__name__" ∧ ((∃ id, f = .builtin id) ∨ ∃ T, f = .type T)
noncomputable def GFn (V : Wd) (lv : Nat) (x : Str) (S : Spec) : Prop := ∃ f, nsIn V.K mainGlobals x = some (some (.ref f)) ∧ keepIn V.K (.ref f) = true ∧ CallOk V lv f S
noncomputable def GMe (V : Wd) (lv : Nat) (C : Addr) (n : Str) (S : Spec) : Prop := ∃ f, MethOk V.K C n f ∧ CallOk V lv f S
noncomputable def GCl (V : Wd) (lv : Nat) (x : Str) (C : Addr) (S : Spec) : Prop := ∃ f, nsIn V.K mainGlobals x = some (some (.ref C)) ∧ ClsOk V.K C f ∧ CallOk V lv f S
theorem GFn.mono {V : Wd} {lv lv' : Nat} {x : Str} {S : Spec} (h : GFn V lv x S) (hl : lv ≤ lv') : GFn V lv' x S := by
  obtain ⟨f, a, b, c⟩ := h
  exact ⟨f, a, b, c.mono hl⟩
theorem GMe.mono {V : Wd} {lv lv' : Nat} {C : Addr} {x : Str} {S : Spec} (h : GMe V lv C x S) (hl : lv ≤ lv') : GMe V lv' C x S := by
  obtain ⟨f, a, b⟩ := h
  exact ⟨f, a, b.mono hl⟩

structure SL (V : Wd) (lv : Nat) (nm : Str) (sc : Scope) (nz : List Str) (pos : Pos) (es : List Expr) (m : MA) : Prop where
  out : plainAll es = true → SimL V lv nm sc nz pos es m
section
variable {V : Wd} {lv : Nat} {nm : Str} {sc : Scope} {nz : List Str}
theorem xL {x : Str} {pos : Pos} (i : Nat) (hx : nz[i]? = some x) (hk : sc.kind = .function) (hl : sc.names.lookup x = some .local) (hd : (x == ("__debug__" : Str)) = false) : SimE V lv nm sc nz (eval (.Name x pos)) (mLoc i) := sim_loc hx hk (fun _ _ _ => hl) hd
theorem xG {x : Str} {pos : Pos} {i : Int} (hg : GInt V x i) (hk : sc.kind = .function) (hl : sc.names.lookup x = some .globalImplicit) (hd : (x == ("__debug__" : Str)) = false) : SimE V lv nm sc nz (eval (.Name x pos)) (mConst (.int i)) := by
  obtain ⟨t, hg⟩ := hg
  exact sim_glob hg hk (fun _ _ _ => hl) hd
theorem xCmp {l r : Expr} {op : CmpOp} {pos : Pos} {m₁ m₂ : ME} (h₁ : SimE V (lv + 7) nm sc nz (eval l) m₁) (h₂ : SimE V (lv + 7) nm sc nz (eval r) m₂) (hb : notSet r = true) : SimE V (lv + 7) nm sc nz (eval (.Compare l [op] [r] pos)) (mCmp op m₁ m₂) := sim_cmp h₁ h₂ (behind_of hb)
theorem tCmp_ {l r : Expr} {op : CmpOp} {pos : Pos} {m₁ m₂ : ME} (h₁ : SimE V (lv + 7) nm sc nz (eval l) m₁) (h₂ : SimE V (lv + 7) nm sc nz (eval r) m₂) (hb : notSet r = true) : SimC V (lv + 7) nm sc nz (.Compare l [op] [r] pos) (tCmp op m₁ m₂) := simc_cmp h₁ h₂ (behind_of hb)
theorem tVal_ {e : Expr} {m : ME} (h : SimE V lv nm sc nz (eval e) m) (he : plainT e = true) : SimC V lv nm sc nz e (tVal m) := simc_val h (test_of he)
theorem lCons {pos : Pos} {e : Expr} {es : List Expr} {m : ME} {ms : MA} (h : SimE V lv nm sc nz (eval e) m) (hs : SL V lv nm sc nz pos es ms) : SL V lv nm sc nz pos (e :: es) (aCons m ms) := ⟨fun hp => by
  unfold plainAll at hp
  rw [List.all_cons, Bool.and_eq_true] at hp
  exact siml_cons h (hs.out hp.2) (star_of hp.1)⟩
theorem lNil {pos : Pos} : SL V lv nm sc nz pos [] aNil := ⟨fun _ => siml_nil⟩
theorem xTup {es : List Expr} {n : Nat} {pos : Pos} {ms : MA} (h : SL V lv nm sc nz pos es ms) (hp : plainAll es = true) : SimE V lv nm sc nz (eval (.Tuple es n pos)) (mTup ms) := sim_tup (h.out hp)
theorem xList {es : List Expr} {pos : Pos} {ms : MA} (h : SL V lv nm sc nz pos es ms) (hp : plainAll es = true) : SimE V lv nm sc nz (eval (.List es pos)) (mList ms) := sim_list (h.out hp)
theorem xAttr {value : Expr} {n : Str} {pos : Pos} {cls : Addr} {m : ME} (h : SimE V lv nm sc nz (eval value) m) (hok : attrOk V.K cls n = true) (hn : notCall value = true) : SimE V lv nm sc nz (eval (.Attribute value n pos)) (mAttr cls n m) := sim_attr h hok (attr_of hn)
theorem xCall {x : Str} {npos pos : Pos} {es : List Expr} {ms : MA} {S : Spec} (hc : GFn V lv x S) (hs : SL V (lv + 1) nm sc nz pos es ms) (hk : sc.kind = .function) (hl : sc.names.lookup x = some .globalImplicit) (hd : (x == ("__debug__" : Str)) = false) (hp : plainAll es = true) :
    SimE V (lv + 1) nm sc nz (eval (.Call (.Name x npos) es [] pos)) (mCall S ms) := by
  obtain ⟨f, hg, hkp, hc⟩ := hc
  exact sim_call hc hg hkp (hs.out hp) hk (fun _ _ _ => hl) hd (stars_of hp)
theorem xBi {x : Str} {npos pos : Pos} {es : List Expr} {e : Expr} {ms : MA} {S : Spec} {f : Value} (hc : BOk V lv f S) (hg : GBi V x f) (hs : SL V lv nm sc nz pos (e :: es) ms) (hk : sc.kind = .function) (hl : sc.names.lookup x = some .globalImplicit) (hd : (x == ("__debug__" : Str)) = false) (hp : plainAll (e :: es) = true) :
    SimE V lv nm sc nz (eval (.Call (.Name x npos) (e :: es) [] pos)) (mCall S ms) := by
  obtain ⟨h1, h2, h3, h4⟩ := hg
  have hp' := hp
  unfold plainAll at hp'
  rw [List.all_cons, Bool.and_eq_true] at hp'
  exact sim_bcall hc h4 h1 h2 h3 (hs.out hp) hk (fun _ _ _ => hl) hd (star_of hp'.1) (backs_of hp'.2 pos)
theorem xMe {o : Expr} {n : Str} {apos pos : Pos} {es : List Expr} {m : ME} {ms : MA} {S : Spec} {cls : Addr} (ho : SimE V (lv + 1) nm sc nz (eval o) m) (hc : GMe V lv cls n S) (hs : SL V (lv + 1) nm sc nz pos es ms) (hk : sc.kind = .function) (hn : notCall o = true) (hp : plainAll es = true) (hl : es.length < 29) (hq : (apos.endLine == pos.line) = true) :
    SimE V (lv + 1) nm sc nz (eval (.Call (.Attribute o n apos) es [] pos)) (mMeth cls n S m ms) := by
  obtain ⟨f, hm, hc⟩ := hc
  exact sim_meth ho hc hm (hs.out hp) hk (stars_of hp) (meth_of hn hp hl hq)
theorem xLM {k : LM} {n : Str} {o : Expr} {apos pos : Pos} {es : List Expr} {m : ME} {ms : MA} (ho : SimE V lv nm sc nz (eval o) m) (hs : SL V lv nm sc nz pos es ms) (hk : n = k.name) (hn : notCall o = true) (hp : plainAll es = true) (hl : es.length < 29) (hq : (apos.endLine == pos.line) = true) :
    SimE V lv nm sc nz (eval (.Call (.Attribute o n apos) es [] pos)) (mLM k m ms) := by
  subst hk
  exact sim_lm ho (hs.out hp) (stars_of hp) (meth_of hn hp hl hq)
theorem xNew {x : Str} {npos pos : Pos} {es : List Expr} {ms : MA} {S : Spec} {cls : Addr} (hc : GCl V lv x cls S) (hs : SL V (lv + 2) nm sc nz pos es ms) (hk : sc.kind = .function) (hl : sc.names.lookup x = some .globalImplicit) (hd : (x == ("__debug__" : Str)) = false) (hp : plainAll es = true) :
    SimE V (lv + 2) nm sc nz (eval (.Call (.Name x npos) es [] pos)) (mNew cls S ms) := by
  obtain ⟨f, h1, h2, h3⟩ := hc
  exact sim_new h3 h2 h1 (hs.out hp) hk (fun _ _ _ => hl) hd (stars_of hp)
theorem gName {x : Str} {pos : Pos} (i : Nat) (hx : nz[i]? = some x) (hn : nz.Nodup) (hk : sc.kind = .function) (hl : sc.names.lookup x = some .local) : SimTg V lv nm sc nz (.Name x pos) (tName i) := simtg_name hx hn hk fun _ _ _ => hl
theorem gsCons {e : Expr} {es : List Expr} {t : Tg} {ts : List Tg} (h : SimTg V lv nm sc nz e t) (hp : plainE e = true) (hs : SimTgs V lv nm sc nz es ts) : SimTgs V lv nm sc nz (e :: es) (t :: ts) := .cons h (asg_of hp) hs
theorem pAsg {t value : Expr} {pos : Pos} {m : ME} {tg : Tg} (h : SimE V lv nm sc nz (eval value) m) (ht : SimTg V lv nm sc nz t tg) (hc : notComp value = true) (hs : (notTuple value || notBigTup t) = true) (hp : plainE t = true) :
    SimS V lv nm sc nz (exec (.Assign [t] value pos)) (sAssign tg m) := by
  refine sims_assign h ht (fun _ _ _ => swaps_of hc _) (fun _ _ _ => ?_) (fun env => asg_of hp env)
  rw [Bool.or_eq_true] at hs
  rcases hs with hs | hs
  · exact swapv_of hs _
  · exact swapb_of hs _
theorem pAugName {x : Str} {npos pos : Pos} {op : Operator} {value : Expr} {m : ME} (i : Nat) (h : SimE V lv nm sc nz (eval value) m) (hx : nz[i]? = some x) (hn : nz.Nodup) (hk : sc.kind = .function) (hl : sc.names.lookup x = some .local) :
    SimS V lv nm sc nz (exec (.AugAssign (.Name x npos) op value pos)) (sAugName i op m) := sims_augName h hx hn hk fun _ _ _ => hl
theorem pAugSub {o i : Expr} {spos pos : Pos} {value : Expr} {m₁ m₂ m : ME} (h₁ : SimE V lv nm sc nz (eval o) m₁) (h₂ : SimE V lv nm sc nz (eval i) m₂) (h : SimE V lv nm sc nz (eval value) m) (hs : notSlice i = true) :
    SimS V lv nm sc nz (exec (.AugAssign (.Subscript o i spos) .Add value pos)) (sAugSub m₁ m₂ m) := sims_augSub h₁ h₂ h fun _ _ _ => aug_of hs _ _ _
theorem pExpr {e : Expr} {pos : Pos} {m : ME} (h : SimE V lv nm sc nz (eval e) m) (hk : sc.kind = .function) (hc : notComp e = true) : SimS V lv nm sc nz (exec (.Expr e pos)) (sExpr m) := by
  refine sims_expr h (fun _ _ _ => ?_) fun _ _ _ => swapw_of hc _
  unfold interactive
  show (sc.kind == .module && _) = false
  rw [hk]; rfl
theorem pFor {target iter : Expr} {body : List Stmt} {pos : Pos} {tg : Tg} {m : ME} {mb : MS} (hi : SimE V lv nm sc nz (eval iter) m) (ht : SimTg V lv nm sc nz target tg) (hb : SimS V lv nm sc nz (execs body) mb) (hs : notSet iter = true) :
    SimS V lv nm sc nz (exec (.For target iter body [] pos)) (sFor tg m mb) := sims_for hi ht hb (fold_of hs)
theorem pForR {target : Expr} {npos ipos pos : Pos} {e : Expr} {es : List Expr} {body : List Stmt} {tg : Tg} {ms : MA} {mb : MS} (hg : nsIn V.K mainGlobals "range" = some none) (hs : SL V lv nm sc nz ipos (e :: es) ms) (ht : SimTg V lv nm sc nz target tg) (hb : SimS V lv nm sc nz (execs body) mb)
    (hk : sc.kind = .function) (hl : sc.names.lookup ("range" : Str) = some .globalImplicit) (hp : plainAll (e :: es) = true) (ho : noOwn target = true) :
    SimS V lv nm sc nz (exec (.For target (.Call (.Name "range" npos) (e :: es) [] ipos) body [] pos)) (sForR tg ms mb) := by
  have hp' := hp
  unfold plainAll at hp'
  rw [List.all_cons, Bool.and_eq_true] at hp'
  exact sims_forR hg (hs.out hp) ht hb hk (fun _ _ _ => hl) (star_of hp'.1) (backs_of hp'.2 ipos) (own_of ho) (fold_of rfl)
end

/-- the def st stands at f -/
noncomputable def FnAt (K : Frag) (f : Addr) (st : Stmt) (qual : Str) (pn : List Str) : Prop :=
  ∃ dV kV doc pm cdv ct oc an od osl, K.lookup f = some ⟨oc, od, .func (fnOf (fdName st) qual (fdArgs st) (fdBody st) (fdScope st) dV kV doc pm an cdv ct), osl⟩ ∧ codeIn K cdv qual = true ∧
    ∀ vals : List Value, vals.length = pn.length → bindArgs (fnOf (fdName st) qual (fdArgs st) (fdBody st) (fdScope st) dV kV doc pm an cdv ct) ⟨vals, []⟩ = pure (pn.zip vals)
noncomputable def scOk (sc : Scope) (pn : List Str) : Bool := (sc.kind == .function) && !sc.isCoroutine && !sc.isGenerator && sc.names.all (fun x => decide (x.2 ≠ .cell)) && pn.all fun y => decide (sc.names.lookup y = some .local)
theorem callOk_at {V : Wd} {lv : Nat} (hcl : V.cl = []) {f : Addr} {S : Spec} {st : Stmt} {qual : Str} {pn nz : List Str} {m : MS} (hf : FnAt V.K f st qual pn) (hnz : nz.take pn.length = pn) (hnd : nz.Nodup) (hsc : scOk (fdScope st) pn = true)
    (hsim : SimS V lv qual (fdScope st) nz (execs (fdBody st)) m)
    (hS : ∀ args H P, S args H P → args.length = pn.length ∧ m (startLoc args (nz.length - pn.length)) H (fun fl _ H' => match fl with | .ret v => P v H' | .next => P .none H' | _ => False)) : CallOk V lv f S := by
  obtain ⟨dV, kV, doc, pm, cdv, ct, oc, an, od, osl, ho, hcd, hb⟩ := hf
  unfold scOk at hsc
  simp only [Bool.and_eq_true, List.all_eq_true, decide_eq_true_eq, Bool.not_eq_true', beq_iff_eq] at hsc
  obtain ⟨⟨⟨⟨h1, h2⟩, h3⟩, h4⟩, h5⟩ := hsc
  have hle : pn.length ≤ nz.length := by
    have := congrArg List.length hnz
    rw [List.length_take] at this; omega
  have hpd : pn.Nodup := by rw [← hnz]; exact hnd.sublist (List.take_sublist _ _)
  exact callOk_def hcl ho hcd hb h5 hpd (nz.length - pn.length) hnz (by omega) hsim hS h2 h3 h1 h4
end
section
set_option genSizeOf false
set_option genSizeOfSpec false
set_option maxRecDepth 100000
set_option maxHeartbeats 1000000
set_option genInjectivity false in
structure Ad where
  cM : Addr
  cP : Addr
  put_numberS : Spec
  put_signedS : Spec
  put_countedS : Spec
  check_placeS : Spec
  barredS : Spec
  movesInitS : Spec
  pruneS : Spec
  hitS : Spec
  moveS : Spec
  pageInitS : Spec
  open_S : Spec
  close_S : Spec
  go_acrossS : Spec
  go_downS : Spec
  specialS : Spec
  law_takeS : Spec
  law_stepsS : Spec
  law_writtenS : Spec
  law_signedS : Spec
  law_moveS : Spec
  law_runS : Spec
  law_boxS : Spec
  law_costS : Spec
structure Wb (V : Wd) (D : Ad) : Prop where
  a_cM_plain : attrOk V.K D.cM "plain" = true
  a_cM_rows : attrOk V.K D.cM "rows" = true
  a_cP_across : attrOk V.K D.cP "across" = true
  a_cP_deepest : attrOk V.K D.cP "deepest" = true
  a_cP_depth : attrOk V.K D.cP "depth" = true
  a_cP_down : attrOk V.K D.cP "down" = true
  a_cP_h : attrOk V.K D.cP "h" = true
  a_cP_octets : attrOk V.K D.cP "octets" = true
  a_cP_v : attrOk V.K D.cP "v" = true
  b_abs : GBi V "abs" (.builtin "abs")
  b_bytes : GBi V "bytes" (.type "bytes")
  b_dict : GBi V "dict" (.type "dict")
  b_int : GBi V "int" (.type "int")
  b_len : GBi V "len" (.builtin "len")
  b_list : GBi V "list" (.type "list")
  b_max : GBi V "max" (.builtin "max")
  b_range : nsIn V.K mainGlobals "range" = some none
  n_DOWN_1 : GInt V "DOWN_1" 157
  n_FIRST_AGAIN : GInt V "FIRST_AGAIN" 4
  n_FIRST_FREE : GInt V "FIRST_FREE" 1
  n_FIRST_SEEN : GInt V "FIRST_SEEN" 1
  n_FIRST_SET : GInt V "FIRST_SET" 5
  n_FIXED : GInt V "FIXED" 3
  n_FREE : GInt V "FREE" 0
  n_IS_FIRST : GInt V "IS_FIRST" 4
  n_IS_SECOND : GInt V "IS_SECOND" 5
  n_MAX_DIMEN : GInt V "MAX_DIMEN" 1073741823
  n_NONE_SEEN : GInt V "NONE_SEEN" 0
  n_POP : GInt V "POP" 142
  n_PUSH : GInt V "PUSH" 141
  n_RIGHT_1 : GInt V "RIGHT_1" 143
  n_SECOND_AGAIN : GInt V "SECOND_AGAIN" 9
  n_SECOND_FREE : GInt V "SECOND_FREE" 2
  n_SECOND_SEEN : GInt V "SECOND_SEEN" 2
  n_SECOND_SET : GInt V "SECOND_SET" 10
  n_SPECIAL_1 : GInt V "SPECIAL_1" 239
  s_cM_plain : SetOk V.K D.cM "plain"
  s_cM_rows : SetOk V.K D.cM "rows"
  s_cP_across : SetOk V.K D.cP "across"
  s_cP_deepest : SetOk V.K D.cP "deepest"
  s_cP_depth : SetOk V.K D.cP "depth"
  s_cP_down : SetOk V.K D.cP "down"
  s_cP_font : SetOk V.K D.cP "font"
  s_cP_fonts : SetOk V.K D.cP "fonts"
  s_cP_h : SetOk V.K D.cP "h"
  s_cP_octets : SetOk V.K D.cP "octets"
  s_cP_v : SetOk V.K D.cP "v"
noncomputable abbrev tTrue : MT := fun _ H P => P true H
noncomputable abbrev tFalse : MT := fun _ H P => P false H
noncomputable abbrev sNo : MS := fun _ _ _ => False
theorem pSwap {V : Wd} {lv : Nat} {nm : Str} {sc : Scope} {nz : List Str} {t value : Expr} {pos : Pos} {m : ME} {names : List Str} {is : List Nat} (h : SimE V lv nm sc nz (eval value) m) (hc : notComp value = true)
    (hw : ∀ L a cd, swappedStores [t] value (envX nm sc L a cd V.cl) = pure (some names)) (hl : names.length = is.length) (hi : ∀ j, j < is.reverse.length → nz[is.reverse.getD j 0]? = names.reverse[j]?) (hn : nz.Nodup) (hk : sc.kind = .function)
    (hloc : (names.all fun y => decide (sc.names.lookup y = some .local)) = true) : SimS V lv nm sc nz (exec (.Assign [t] value pos)) (sSwap is m) := by
  refine sims_swap h (fun _ _ _ => swaps_of hc _) hw hl hi hn hk fun x hx _ _ _ => ?_
  rw [List.all_eq_true] at hloc
  exact of_decide_eq_true (hloc x hx)
noncomputable def nz_put_number : List Str := ["octets", "number", "room", "place"]
theorem nd_put_number : nz_put_number.Nodup := by decide
noncomputable def m_put_number (D : Ad) : MS := (sSeq (sForR (tName 3) (aCons (mBin .Sub (mLoc 2) (mConst (.int 1))) (aCons (mUn .USub (mConst (.int 1))) (aCons (mUn .USub (mConst (.int 1))) aNil)))
  (sSeq (sExpr (mLM .append (mLoc 0) (aCons (mBin .Mod (mBin .FloorDiv (mLoc 1) (mBin .Pow (mConst (.int 256)) (mLoc 3))) (mConst (.int 256))) aNil)))
  sNil))
  sNil)
theorem s_put_number {V : Wd} {D : Ad} (W : Wb V D)  : SimS V 8 "put_number" (fdScope (top 12)) nz_put_number (execs (fdBody (top 12))) (m_put_number D) := by
  have hnd := nd_put_number
  obtain ⟨sc, hsc⟩ : ∃ sc, sc = fdScope (top 12) := ⟨_, rfl⟩
  rw [← hsc]
  have hk : sc.kind = .function := by rw [hsc]; rfl
  have l_place : sc.names.lookup ("place" : Str) = some .local := by rw [hsc]; rfl
  have l_octets : sc.names.lookup ("octets" : Str) = some .local := by rw [hsc]; rfl
  have l_number : sc.names.lookup ("number" : Str) = some .local := by rw [hsc]; rfl
  have l_room : sc.names.lookup ("room" : Str) = some .local := by rw [hsc]; rfl
  have l_range : sc.names.lookup ("range" : Str) = some .globalImplicit := by rw [hsc]; rfl
  refine sims_cons ?_ ?_
  · refine pForR W.b_range ?_ ?_ ?_ hk l_range ?_ ?_
    · refine lCons ?_ ?_
      · refine sim_bin ?_ ?_
        · refine xL 2 ?_ hk l_room ?_ <;> rfl
        exact sim_int
      refine lCons ?_ ?_
      · refine sim_un ?_
        exact sim_int
      refine lCons ?_ ?_
      · refine sim_un ?_
        exact sim_int
      exact lNil
    · refine gName 3 ?_ hnd hk l_place <;> rfl
    · refine sims_cons ?_ ?_
      · refine pExpr ?_ hk ?_
        · refine xLM (k := .append) ?_ ?_ ?_ ?_ ?_ ?_ ?_
          · refine xL 0 ?_ hk l_octets ?_ <;> rfl
          · refine lCons ?_ ?_
            · refine sim_bin ?_ ?_
              · refine sim_bin ?_ ?_
                · refine xL 1 ?_ hk l_number ?_ <;> rfl
                refine sim_bin ?_ ?_
                · exact sim_int
                refine xL 3 ?_ hk l_place ?_ <;> rfl
              exact sim_int
            exact lNil
          · rfl
          · rfl
          · rfl
          · decide
          rfl
        rfl
      exact sims_nil
    · rfl
    rfl
  exact sims_nil
noncomputable def nz_put_signed : List Str := ["octets", "first", "size", "room"]
theorem nd_put_signed : nz_put_signed.Nodup := by decide
noncomputable def m_put_signed (D : Ad) : MS := (sSeq (sAssign (tName 3) (mConst (.int 1)))
  (sSeq (sWhile (tAnd (tCmp .Lt (mLoc 3) (mConst (.int 4))) (tAnd (tCmp .GtE (mCall absS (aCons (mLoc 2) aNil)) (mBin .Mult (mConst (.int 128)) (mBin .Pow (mConst (.int 256)) (mBin .Sub (mLoc 3) (mConst (.int 1)))))) tTrue))
  (sSeq (sAugName 3 .Add (mConst (.int 1)))
  sNil))
  (sSeq (sExpr (mLM .append (mLoc 0) (aCons (mBin .Sub (mBin .Add (mLoc 1) (mLoc 3)) (mConst (.int 1))) aNil)))
  (sSeq (sExpr (mCall D.put_numberS (aCons (mLoc 0) (aCons (mLoc 2) (aCons (mLoc 3) aNil)))))
  sNil))))
theorem s_put_signed {V : Wd} {D : Ad} (W : Wb V D) (f_put_number : GFn V 8 "put_number" D.put_numberS) : SimS V 9 "put_signed" (fdScope (top 13)) nz_put_signed (execs (fdBody (top 13))) (m_put_signed D) := by
  have hnd := nd_put_signed
  obtain ⟨sc, hsc⟩ : ∃ sc, sc = fdScope (top 13) := ⟨_, rfl⟩
  rw [← hsc]
  have hk : sc.kind = .function := by rw [hsc]; rfl
  have l_room : sc.names.lookup ("room" : Str) = some .local := by rw [hsc]; rfl
  have l_size : sc.names.lookup ("size" : Str) = some .local := by rw [hsc]; rfl
  have l_abs : sc.names.lookup ("abs" : Str) = some .globalImplicit := by rw [hsc]; rfl
  have l_octets : sc.names.lookup ("octets" : Str) = some .local := by rw [hsc]; rfl
  have l_first : sc.names.lookup ("first" : Str) = some .local := by rw [hsc]; rfl
  have l_put_number : sc.names.lookup ("put_number" : Str) = some .globalImplicit := by rw [hsc]; rfl
  refine sims_cons ?_ ?_
  · refine pAsg ?_ ?_ ?_ ?_ ?_
    · exact sim_int
    · refine gName 3 ?_ hnd hk l_room <;> rfl
    · rfl
    · rfl
    rfl
  refine sims_cons ?_ ?_
  · refine sims_while ?_ ?_
    · refine simc_and ?_ ?_
      · refine tCmp_ ?_ ?_ ?_
        · refine xL 3 ?_ hk l_room ?_ <;> rfl
        · exact sim_int
        rfl
      refine simc_and ?_ ?_
      · refine tCmp_ ?_ ?_ ?_
        · refine xBi bok_abs W.b_abs ?_ hk l_abs ?_ ?_
          · refine lCons ?_ ?_
            · refine xL 2 ?_ hk l_size ?_ <;> rfl
            exact lNil
          · rfl
          rfl
        · refine sim_bin ?_ ?_
          · exact sim_int
          refine sim_bin ?_ ?_
          · exact sim_int
          refine sim_bin ?_ ?_
          · refine xL 3 ?_ hk l_room ?_ <;> rfl
          exact sim_int
        rfl
      exact simc_and_nil
    refine sims_cons ?_ ?_
    · refine pAugName 3 ?_ ?_ hnd hk l_room
      · exact sim_int
      rfl
    exact sims_nil
  refine sims_cons ?_ ?_
  · refine pExpr ?_ hk ?_
    · refine xLM (k := .append) ?_ ?_ ?_ ?_ ?_ ?_ ?_
      · refine xL 0 ?_ hk l_octets ?_ <;> rfl
      · refine lCons ?_ ?_
        · refine sim_bin ?_ ?_
          · refine sim_bin ?_ ?_
            · refine xL 1 ?_ hk l_first ?_ <;> rfl
            refine xL 3 ?_ hk l_room ?_ <;> rfl
          exact sim_int
        exact lNil
      · rfl
      · rfl
      · rfl
      · decide
      rfl
    rfl
  refine sims_cons ?_ ?_
  · refine pExpr ?_ hk ?_
    · refine xCall f_put_number ?_ hk l_put_number ?_ ?_
      · refine lCons ?_ ?_
        · refine xL 0 ?_ hk l_octets ?_ <;> rfl
        refine lCons ?_ ?_
        · refine xL 2 ?_ hk l_size ?_ <;> rfl
        refine lCons ?_ ?_
        · refine xL 3 ?_ hk l_room ?_ <;> rfl
        exact lNil
      · rfl
      rfl
    rfl
  exact sims_nil
noncomputable def nz_put_counted : List Str := ["octets", "first", "number", "room"]
theorem nd_put_counted : nz_put_counted.Nodup := by decide
noncomputable def m_put_counted (D : Ad) : MS := (sSeq (sAssign (tName 3) (mConst (.int 1)))
  (sSeq (sWhile (tAnd (tCmp .Lt (mLoc 3) (mConst (.int 4))) (tAnd (tCmp .GtE (mLoc 2) (mBin .Pow (mConst (.int 256)) (mLoc 3))) tTrue))
  (sSeq (sAugName 3 .Add (mConst (.int 1)))
  sNil))
  (sSeq (sExpr (mLM .append (mLoc 0) (aCons (mBin .Sub (mBin .Add (mLoc 1) (mLoc 3)) (mConst (.int 1))) aNil)))
  (sSeq (sExpr (mCall D.put_numberS (aCons (mLoc 0) (aCons (mLoc 2) (aCons (mLoc 3) aNil)))))
  sNil))))
theorem s_put_counted {V : Wd} {D : Ad} (W : Wb V D) (f_put_number : GFn V 8 "put_number" D.put_numberS) : SimS V 9 "put_counted" (fdScope (top 14)) nz_put_counted (execs (fdBody (top 14))) (m_put_counted D) := by
  have hnd := nd_put_counted
  obtain ⟨sc, hsc⟩ : ∃ sc, sc = fdScope (top 14) := ⟨_, rfl⟩
  rw [← hsc]
  have hk : sc.kind = .function := by rw [hsc]; rfl
  have l_room : sc.names.lookup ("room" : Str) = some .local := by rw [hsc]; rfl
  have l_number : sc.names.lookup ("number" : Str) = some .local := by rw [hsc]; rfl
  have l_octets : sc.names.lookup ("octets" : Str) = some .local := by rw [hsc]; rfl
  have l_first : sc.names.lookup ("first" : Str) = some .local := by rw [hsc]; rfl
  have l_put_number : sc.names.lookup ("put_number" : Str) = some .globalImplicit := by rw [hsc]; rfl
  refine sims_cons ?_ ?_
  · refine pAsg ?_ ?_ ?_ ?_ ?_
    · exact sim_int
    · refine gName 3 ?_ hnd hk l_room <;> rfl
    · rfl
    · rfl
    rfl
  refine sims_cons ?_ ?_
  · refine sims_while ?_ ?_
    · refine simc_and ?_ ?_
      · refine tCmp_ ?_ ?_ ?_
        · refine xL 3 ?_ hk l_room ?_ <;> rfl
        · exact sim_int
        rfl
      refine simc_and ?_ ?_
      · refine tCmp_ ?_ ?_ ?_
        · refine xL 2 ?_ hk l_number ?_ <;> rfl
        · refine sim_bin ?_ ?_
          · exact sim_int
          refine xL 3 ?_ hk l_room ?_ <;> rfl
        rfl
      exact simc_and_nil
    refine sims_cons ?_ ?_
    · refine pAugName 3 ?_ ?_ hnd hk l_room
      · exact sim_int
      rfl
    exact sims_nil
  refine sims_cons ?_ ?_
  · refine pExpr ?_ hk ?_
    · refine xLM (k := .append) ?_ ?_ ?_ ?_ ?_ ?_ ?_
      · refine xL 0 ?_ hk l_octets ?_ <;> rfl
      · refine lCons ?_ ?_
        · refine sim_bin ?_ ?_
          · refine sim_bin ?_ ?_
            · refine xL 1 ?_ hk l_first ?_ <;> rfl
            refine xL 3 ?_ hk l_room ?_ <;> rfl
          exact sim_int
        exact lNil
      · rfl
      · rfl
      · rfl
      · decide
      rfl
    rfl
  refine sims_cons ?_ ?_
  · refine pExpr ?_ hk ?_
    · refine xCall f_put_number ?_ hk l_put_number ?_ ?_
      · refine lCons ?_ ?_
        · refine xL 0 ?_ hk l_octets ?_ <;> rfl
        refine lCons ?_ ?_
        · refine xL 2 ?_ hk l_number ?_ <;> rfl
        refine lCons ?_ ?_
        · refine xL 3 ?_ hk l_room ?_ <;> rfl
        exact lNil
      · rfl
      rfl
    rfl
  exact sims_nil
noncomputable def nz_check_place : List Str := ["place"]
theorem nd_check_place : nz_check_place.Nodup := by decide
noncomputable def m_check_place (D : Ad) : MS := (sSeq (sIf (tCmp .Gt (mCall absS (aCons (mLoc 0) aNil)) (mConst (.int 1073741823)))
  (sSeq sNo
  sNil)
  sNil)
  (sSeq (sRet (mLoc 0))
  sNil))
theorem s_check_place {V : Wd} {D : Ad} (W : Wb V D)  : SimS V 8 "check_place" (fdScope (top 15)) nz_check_place (execs (fdBody (top 15))) (m_check_place D) := by
  have hnd := nd_check_place
  obtain ⟨sc, hsc⟩ : ∃ sc, sc = fdScope (top 15) := ⟨_, rfl⟩
  rw [← hsc]
  have hk : sc.kind = .function := by rw [hsc]; rfl
  have l_place : sc.names.lookup ("place" : Str) = some .local := by rw [hsc]; rfl
  have l_abs : sc.names.lookup ("abs" : Str) = some .globalImplicit := by rw [hsc]; rfl
  have l_MAX_DIMEN : sc.names.lookup ("MAX_DIMEN" : Str) = some .globalImplicit := by rw [hsc]; rfl
  refine sims_cons ?_ ?_
  · refine sims_if ?_ ?_ ?_
    · refine tCmp_ ?_ ?_ ?_
      · refine xBi bok_abs W.b_abs ?_ hk l_abs ?_ ?_
        · refine lCons ?_ ?_
          · refine xL 0 ?_ hk l_place ?_ <;> rfl
          exact lNil
        · rfl
        rfl
      · refine xG W.n_MAX_DIMEN hk l_MAX_DIMEN ?_ <;> rfl
      rfl
    · refine sims_cons ?_ ?_
      · exact sims_raise
      exact sims_nil
    exact sims_nil
  refine sims_cons ?_ ?_
  · refine sims_ret ?_
    refine xL 0 ?_ hk l_place ?_ <;> rfl
  exact sims_nil
noncomputable def nz_barred : List Str := ["state", "used"]
theorem nd_barred : nz_barred.Nodup := by decide
noncomputable def m_barred (D : Ad) : MS := (sSeq (sIf (tCmp .Eq (mLoc 1) (mConst (.int 4)))
  (sSeq (sRet (mIf (tCmp .Eq (mLoc 0) (mConst (.int 0))) (mConst (.int 2)) (mIf (tCmp .Eq (mLoc 0) (mConst (.int 1))) (mConst (.int 3)) (mLoc 0))))
  sNil)
  sNil)
  (sSeq (sRet (mIf (tCmp .Eq (mLoc 0) (mConst (.int 0))) (mConst (.int 1)) (mIf (tCmp .Eq (mLoc 0) (mConst (.int 2))) (mConst (.int 3)) (mLoc 0))))
  sNil))
theorem s_barred {V : Wd} {D : Ad} (W : Wb V D)  : SimS V 8 "barred" (fdScope (top 17)) nz_barred (execs (fdBody (top 17))) (m_barred D) := by
  have hnd := nd_barred
  obtain ⟨sc, hsc⟩ : ∃ sc, sc = fdScope (top 17) := ⟨_, rfl⟩
  rw [← hsc]
  have hk : sc.kind = .function := by rw [hsc]; rfl
  have l_used : sc.names.lookup ("used" : Str) = some .local := by rw [hsc]; rfl
  have l_IS_FIRST : sc.names.lookup ("IS_FIRST" : Str) = some .globalImplicit := by rw [hsc]; rfl
  have l_state : sc.names.lookup ("state" : Str) = some .local := by rw [hsc]; rfl
  have l_FREE : sc.names.lookup ("FREE" : Str) = some .globalImplicit := by rw [hsc]; rfl
  have l_SECOND_FREE : sc.names.lookup ("SECOND_FREE" : Str) = some .globalImplicit := by rw [hsc]; rfl
  have l_FIRST_FREE : sc.names.lookup ("FIRST_FREE" : Str) = some .globalImplicit := by rw [hsc]; rfl
  have l_FIXED : sc.names.lookup ("FIXED" : Str) = some .globalImplicit := by rw [hsc]; rfl
  refine sims_cons ?_ ?_
  · refine sims_if ?_ ?_ ?_
    · refine tCmp_ ?_ ?_ ?_
      · refine xL 1 ?_ hk l_used ?_ <;> rfl
      · refine xG W.n_IS_FIRST hk l_IS_FIRST ?_ <;> rfl
      rfl
    · refine sims_cons ?_ ?_
      · refine sims_ret ?_
        refine sim_if ?_ ?_ ?_
        · refine tCmp_ ?_ ?_ ?_
          · refine xL 0 ?_ hk l_state ?_ <;> rfl
          · refine xG W.n_FREE hk l_FREE ?_ <;> rfl
          rfl
        · refine xG W.n_SECOND_FREE hk l_SECOND_FREE ?_ <;> rfl
        refine sim_if ?_ ?_ ?_
        · refine tCmp_ ?_ ?_ ?_
          · refine xL 0 ?_ hk l_state ?_ <;> rfl
          · refine xG W.n_FIRST_FREE hk l_FIRST_FREE ?_ <;> rfl
          rfl
        · refine xG W.n_FIXED hk l_FIXED ?_ <;> rfl
        refine xL 0 ?_ hk l_state ?_ <;> rfl
      exact sims_nil
    exact sims_nil
  refine sims_cons ?_ ?_
  · refine sims_ret ?_
    refine sim_if ?_ ?_ ?_
    · refine tCmp_ ?_ ?_ ?_
      · refine xL 0 ?_ hk l_state ?_ <;> rfl
      · refine xG W.n_FREE hk l_FREE ?_ <;> rfl
      rfl
    · refine xG W.n_FIRST_FREE hk l_FIRST_FREE ?_ <;> rfl
    refine sim_if ?_ ?_ ?_
    · refine tCmp_ ?_ ?_ ?_
      · refine xL 0 ?_ hk l_state ?_ <;> rfl
      · refine xG W.n_SECOND_FREE hk l_SECOND_FREE ?_ <;> rfl
      rfl
    · refine xG W.n_FIXED hk l_FIXED ?_ <;> rfl
    refine xL 0 ?_ hk l_state ?_ <;> rfl
  exact sims_nil
noncomputable def nz_movesInit : List Str := ["self", "plain"]
theorem nd_movesInit : nz_movesInit.Nodup := by decide
noncomputable def m_movesInit (D : Ad) : MS := (sSeq (sAssign (tAttr D.cM "plain" (mLoc 0)) (mLoc 1))
  (sSeq (sAssign (tAttr D.cM "rows" (mLoc 0)) (mList aNil))
  sNil))
theorem s_movesInit {V : Wd} {D : Ad} (W : Wb V D)  : SimS V 8 "Moves.__init__" (fdScope (sub 16 0)) nz_movesInit (execs (fdBody (sub 16 0))) (m_movesInit D) := by
  have hnd := nd_movesInit
  obtain ⟨sc, hsc⟩ : ∃ sc, sc = fdScope (sub 16 0) := ⟨_, rfl⟩
  rw [← hsc]
  have hk : sc.kind = .function := by rw [hsc]; rfl
  have l_plain : sc.names.lookup ("plain" : Str) = some .local := by rw [hsc]; rfl
  have l_self : sc.names.lookup ("self" : Str) = some .local := by rw [hsc]; rfl
  refine sims_cons ?_ ?_
  · refine pAsg ?_ ?_ ?_ ?_ ?_
    · refine xL 1 ?_ hk l_plain ?_ <;> rfl
    · refine simtg_attr ?_ W.s_cM_plain
      refine xL 0 ?_ hk l_self ?_ <;> rfl
    · rfl
    · rfl
    rfl
  refine sims_cons ?_ ?_
  · refine pAsg ?_ ?_ ?_ ?_ ?_
    · refine xList ?_ ?_
      · exact lNil
      rfl
    · refine simtg_attr ?_ W.s_cM_rows
      refine xL 0 ?_ hk l_self ?_ <;> rfl
    · rfl
    · rfl
    rfl
  exact sims_nil
noncomputable def nz_prune : List Str := ["self", "begin"]
theorem nd_prune : nz_prune.Nodup := by decide
noncomputable def m_prune (D : Ad) : MS := (sSeq (sWhile (tAnd (tCmp .Gt (mCall lenS (aCons (mAttr D.cM "rows" (mLoc 0)) aNil)) (mConst (.int 0))) (tAnd (tCmp .GtE (mSub (mSub (mAttr D.cM "rows" (mLoc 0)) (mUn .USub (mConst (.int 1)))) (mConst (.int 1))) (mLoc 1)) tTrue))
  (sSeq (sExpr (mLM .pop (mAttr D.cM "rows" (mLoc 0)) aNil))
  sNil))
  sNil)
theorem s_prune {V : Wd} {D : Ad} (W : Wb V D)  : SimS V 8 "Moves.prune" (fdScope (sub 16 1)) nz_prune (execs (fdBody (sub 16 1))) (m_prune D) := by
  have hnd := nd_prune
  obtain ⟨sc, hsc⟩ : ∃ sc, sc = fdScope (sub 16 1) := ⟨_, rfl⟩
  rw [← hsc]
  have hk : sc.kind = .function := by rw [hsc]; rfl
  have l_self : sc.names.lookup ("self" : Str) = some .local := by rw [hsc]; rfl
  have l_begin : sc.names.lookup ("begin" : Str) = some .local := by rw [hsc]; rfl
  have l_len : sc.names.lookup ("len" : Str) = some .globalImplicit := by rw [hsc]; rfl
  refine sims_cons ?_ ?_
  · refine sims_while ?_ ?_
    · refine simc_and ?_ ?_
      · refine tCmp_ ?_ ?_ ?_
        · refine xBi bok_len W.b_len ?_ hk l_len ?_ ?_
          · refine lCons ?_ ?_
            · refine xAttr ?_ W.a_cM_rows ?_
              · refine xL 0 ?_ hk l_self ?_ <;> rfl
              rfl
            exact lNil
          · rfl
          rfl
        · exact sim_int
        rfl
      refine simc_and ?_ ?_
      · refine tCmp_ ?_ ?_ ?_
        · refine sim_sub ?_ ?_
          · refine sim_sub ?_ ?_
            · refine xAttr ?_ W.a_cM_rows ?_
              · refine xL 0 ?_ hk l_self ?_ <;> rfl
              rfl
            refine sim_un ?_
            exact sim_int
          exact sim_int
        · refine xL 1 ?_ hk l_begin ?_ <;> rfl
        rfl
      exact simc_and_nil
    refine sims_cons ?_ ?_
    · refine pExpr ?_ hk ?_
      · refine xLM (k := .pop) ?_ ?_ ?_ ?_ ?_ ?_ ?_
        · refine xAttr ?_ W.a_cM_rows ?_
          · refine xL 0 ?_ hk l_self ?_ <;> rfl
          rfl
        · exact lNil
        · rfl
        · rfl
        · rfl
        · decide
        rfl
      rfl
    exact sims_nil
  exact sims_nil
noncomputable def nz_hit : List Str := ["self", "octets", "size", "seen", "place", "there", "spot", "state"]
theorem nd_hit : nz_hit.Nodup := by decide
noncomputable def m_hit (D : Ad) : MS := (sSeq (sAssign (tName 3) (mConst (.int 0)))
  (sSeq (sForR (tName 4) (aCons (mBin .Sub (mCall lenS (aCons (mAttr D.cM "rows" (mLoc 0)) aNil)) (mConst (.int 1))) (aCons (mUn .USub (mConst (.int 1))) (aCons (mUn .USub (mConst (.int 1))) aNil)))
  (sSeq (sAssign (tTup [(tName 5), (tName 6), (tName 7)]) (mSub (mAttr D.cM "rows" (mLoc 0)) (mLoc 4)))
  (sSeq (sIf (tCmp .Eq (mLoc 5) (mLoc 2))
  (sSeq (sIf (tOr (tAnd (tCmp .Eq (mLoc 7) (mConst (.int 4))) (tAnd (tCmp .NotEq (mLoc 3) (mConst (.int 1))) tTrue)) (tOr (tAnd (tCmp .Eq (mLoc 7) (mConst (.int 5))) (tAnd (tCmp .NotEq (mLoc 3) (mConst (.int 2))) tTrue)) tFalse))
  (sSeq (sRet (mLoc 4))
  sNil)
  sNil)
  (sSeq (sIf (tAnd (tOr (tCmp .Eq (mLoc 7) (mConst (.int 0))) (tOr (tCmp .Eq (mLoc 7) (mConst (.int 1))) tFalse)) (tAnd (tCmp .NotEq (mLoc 3) (mConst (.int 1))) tTrue))
  (sSeq (sAugSub (mLoc 1) (mLoc 6) (mConst (.int 5)))
  (sSeq (sAssign (tSub (mSub (mAttr D.cM "rows" (mLoc 0)) (mLoc 4)) (mConst (.int 2))) (mConst (.int 4)))
  (sSeq (sRet (mLoc 4))
  sNil)))
  sNil)
  (sSeq (sIf (tAnd (tOr (tCmp .Eq (mLoc 7) (mConst (.int 0))) (tOr (tCmp .Eq (mLoc 7) (mConst (.int 2))) tFalse)) (tAnd (tCmp .NotEq (mLoc 3) (mConst (.int 2))) tTrue))
  (sSeq (sAugSub (mLoc 1) (mLoc 6) (mConst (.int 10)))
  (sSeq (sAssign (tSub (mSub (mAttr D.cM "rows" (mLoc 0)) (mLoc 4)) (mConst (.int 2))) (mConst (.int 5)))
  (sSeq (sRet (mLoc 4))
  sNil)))
  sNil)
  sNil)))
  (sSeq (sIf (tCmp .Eq (mLoc 7) (mConst (.int 4)))
  (sSeq (sIf (tCmp .Eq (mLoc 3) (mConst (.int 2)))
  (sSeq (sRet (mUn .USub (mConst (.int 1))))
  sNil)
  sNil)
  (sSeq (sAssign (tName 3) (mConst (.int 1)))
  sNil))
  (sSeq (sIf (tCmp .Eq (mLoc 7) (mConst (.int 5)))
  (sSeq (sIf (tCmp .Eq (mLoc 3) (mConst (.int 1)))
  (sSeq (sRet (mUn .USub (mConst (.int 1))))
  sNil)
  sNil)
  (sSeq (sAssign (tName 3) (mConst (.int 2)))
  sNil))
  sNil)
  sNil))
  sNil))
  sNil)))
  (sSeq (sRet (mUn .USub (mConst (.int 1))))
  sNil)))
theorem s_hit {V : Wd} {D : Ad} (W : Wb V D)  : SimS V 8 "Moves.hit" (fdScope (sub 16 3)) nz_hit (execs (fdBody (sub 16 3))) (m_hit D) := by
  have hnd := nd_hit
  obtain ⟨sc, hsc⟩ : ∃ sc, sc = fdScope (sub 16 3) := ⟨_, rfl⟩
  rw [← hsc]
  have hk : sc.kind = .function := by rw [hsc]; rfl
  have l_NONE_SEEN : sc.names.lookup ("NONE_SEEN" : Str) = some .globalImplicit := by rw [hsc]; rfl
  have l_seen : sc.names.lookup ("seen" : Str) = some .local := by rw [hsc]; rfl
  have l_place : sc.names.lookup ("place" : Str) = some .local := by rw [hsc]; rfl
  have l_self : sc.names.lookup ("self" : Str) = some .local := by rw [hsc]; rfl
  have l_state : sc.names.lookup ("state" : Str) = some .local := by rw [hsc]; rfl
  have l_spot : sc.names.lookup ("spot" : Str) = some .local := by rw [hsc]; rfl
  have l_there : sc.names.lookup ("there" : Str) = some .local := by rw [hsc]; rfl
  have l_size : sc.names.lookup ("size" : Str) = some .local := by rw [hsc]; rfl
  have l_SECOND_SEEN : sc.names.lookup ("SECOND_SEEN" : Str) = some .globalImplicit := by rw [hsc]; rfl
  have l_IS_SECOND : sc.names.lookup ("IS_SECOND" : Str) = some .globalImplicit := by rw [hsc]; rfl
  have l_FIRST_SEEN : sc.names.lookup ("FIRST_SEEN" : Str) = some .globalImplicit := by rw [hsc]; rfl
  have l_IS_FIRST : sc.names.lookup ("IS_FIRST" : Str) = some .globalImplicit := by rw [hsc]; rfl
  have l_FIRST_FREE : sc.names.lookup ("FIRST_FREE" : Str) = some .globalImplicit := by rw [hsc]; rfl
  have l_FREE : sc.names.lookup ("FREE" : Str) = some .globalImplicit := by rw [hsc]; rfl
  have l_FIRST_SET : sc.names.lookup ("FIRST_SET" : Str) = some .globalImplicit := by rw [hsc]; rfl
  have l_octets : sc.names.lookup ("octets" : Str) = some .local := by rw [hsc]; rfl
  have l_SECOND_FREE : sc.names.lookup ("SECOND_FREE" : Str) = some .globalImplicit := by rw [hsc]; rfl
  have l_SECOND_SET : sc.names.lookup ("SECOND_SET" : Str) = some .globalImplicit := by rw [hsc]; rfl
  have l_len : sc.names.lookup ("len" : Str) = some .globalImplicit := by rw [hsc]; rfl
  have l_range : sc.names.lookup ("range" : Str) = some .globalImplicit := by rw [hsc]; rfl
  refine sims_cons ?_ ?_
  · refine pAsg ?_ ?_ ?_ ?_ ?_
    · refine xG W.n_NONE_SEEN hk l_NONE_SEEN ?_ <;> rfl
    · refine gName 3 ?_ hnd hk l_seen <;> rfl
    · rfl
    · rfl
    rfl
  refine sims_cons ?_ ?_
  · refine pForR W.b_range ?_ ?_ ?_ hk l_range ?_ ?_
    · refine lCons ?_ ?_
      · refine sim_bin ?_ ?_
        · refine xBi bok_len W.b_len ?_ hk l_len ?_ ?_
          · refine lCons ?_ ?_
            · refine xAttr ?_ W.a_cM_rows ?_
              · refine xL 0 ?_ hk l_self ?_ <;> rfl
              rfl
            exact lNil
          · rfl
          rfl
        exact sim_int
      refine lCons ?_ ?_
      · refine sim_un ?_
        exact sim_int
      refine lCons ?_ ?_
      · refine sim_un ?_
        exact sim_int
      exact lNil
    · refine gName 4 ?_ hnd hk l_place <;> rfl
    · refine sims_cons ?_ ?_
      · refine pAsg ?_ ?_ ?_ ?_ ?_
        · refine sim_sub ?_ ?_
          · refine xAttr ?_ W.a_cM_rows ?_
            · refine xL 0 ?_ hk l_self ?_ <;> rfl
            rfl
          refine xL 4 ?_ hk l_place ?_ <;> rfl
        · refine simtg_tup ?_
          refine gsCons ?_ ?_ ?_
          · refine gName 5 ?_ hnd hk l_there <;> rfl
          · rfl
          refine gsCons ?_ ?_ ?_
          · refine gName 6 ?_ hnd hk l_spot <;> rfl
          · rfl
          refine gsCons ?_ ?_ ?_
          · refine gName 7 ?_ hnd hk l_state <;> rfl
          · rfl
          exact .nil
        · rfl
        · rfl
        rfl
      refine sims_cons ?_ ?_
      · refine sims_if ?_ ?_ ?_
        · refine tCmp_ ?_ ?_ ?_
          · refine xL 5 ?_ hk l_there ?_ <;> rfl
          · refine xL 2 ?_ hk l_size ?_ <;> rfl
          rfl
        · refine sims_cons ?_ ?_
          · refine sims_if ?_ ?_ ?_
            · refine simc_or ?_ ?_
              · refine simc_and ?_ ?_
                · refine tCmp_ ?_ ?_ ?_
                  · refine xL 7 ?_ hk l_state ?_ <;> rfl
                  · refine xG W.n_IS_FIRST hk l_IS_FIRST ?_ <;> rfl
                  rfl
                refine simc_and ?_ ?_
                · refine tCmp_ ?_ ?_ ?_
                  · refine xL 3 ?_ hk l_seen ?_ <;> rfl
                  · refine xG W.n_FIRST_SEEN hk l_FIRST_SEEN ?_ <;> rfl
                  rfl
                exact simc_and_nil
              refine simc_or ?_ ?_
              · refine simc_and ?_ ?_
                · refine tCmp_ ?_ ?_ ?_
                  · refine xL 7 ?_ hk l_state ?_ <;> rfl
                  · refine xG W.n_IS_SECOND hk l_IS_SECOND ?_ <;> rfl
                  rfl
                refine simc_and ?_ ?_
                · refine tCmp_ ?_ ?_ ?_
                  · refine xL 3 ?_ hk l_seen ?_ <;> rfl
                  · refine xG W.n_SECOND_SEEN hk l_SECOND_SEEN ?_ <;> rfl
                  rfl
                exact simc_and_nil
              exact simc_or_nil
            · refine sims_cons ?_ ?_
              · refine sims_ret ?_
                refine xL 4 ?_ hk l_place ?_ <;> rfl
              exact sims_nil
            exact sims_nil
          refine sims_cons ?_ ?_
          · refine sims_if ?_ ?_ ?_
            · refine simc_and ?_ ?_
              · refine simc_or ?_ ?_
                · refine tCmp_ ?_ ?_ ?_
                  · refine xL 7 ?_ hk l_state ?_ <;> rfl
                  · refine xG W.n_FREE hk l_FREE ?_ <;> rfl
                  rfl
                refine simc_or ?_ ?_
                · refine tCmp_ ?_ ?_ ?_
                  · refine xL 7 ?_ hk l_state ?_ <;> rfl
                  · refine xG W.n_FIRST_FREE hk l_FIRST_FREE ?_ <;> rfl
                  rfl
                exact simc_or_nil
              refine simc_and ?_ ?_
              · refine tCmp_ ?_ ?_ ?_
                · refine xL 3 ?_ hk l_seen ?_ <;> rfl
                · refine xG W.n_FIRST_SEEN hk l_FIRST_SEEN ?_ <;> rfl
                rfl
              exact simc_and_nil
            · refine sims_cons ?_ ?_
              · refine pAugSub ?_ ?_ ?_ ?_
                · refine xL 1 ?_ hk l_octets ?_ <;> rfl
                · refine xL 6 ?_ hk l_spot ?_ <;> rfl
                · refine xG W.n_FIRST_SET hk l_FIRST_SET ?_ <;> rfl
                rfl
              refine sims_cons ?_ ?_
              · refine pAsg ?_ ?_ ?_ ?_ ?_
                · refine xG W.n_IS_FIRST hk l_IS_FIRST ?_ <;> rfl
                · refine simtg_sub ?_ ?_
                  · refine sim_sub ?_ ?_
                    · refine xAttr ?_ W.a_cM_rows ?_
                      · refine xL 0 ?_ hk l_self ?_ <;> rfl
                      rfl
                    refine xL 4 ?_ hk l_place ?_ <;> rfl
                  exact sim_int
                · rfl
                · rfl
                rfl
              refine sims_cons ?_ ?_
              · refine sims_ret ?_
                refine xL 4 ?_ hk l_place ?_ <;> rfl
              exact sims_nil
            exact sims_nil
          refine sims_cons ?_ ?_
          · refine sims_if ?_ ?_ ?_
            · refine simc_and ?_ ?_
              · refine simc_or ?_ ?_
                · refine tCmp_ ?_ ?_ ?_
                  · refine xL 7 ?_ hk l_state ?_ <;> rfl
                  · refine xG W.n_FREE hk l_FREE ?_ <;> rfl
                  rfl
                refine simc_or ?_ ?_
                · refine tCmp_ ?_ ?_ ?_
                  · refine xL 7 ?_ hk l_state ?_ <;> rfl
                  · refine xG W.n_SECOND_FREE hk l_SECOND_FREE ?_ <;> rfl
                  rfl
                exact simc_or_nil
              refine simc_and ?_ ?_
              · refine tCmp_ ?_ ?_ ?_
                · refine xL 3 ?_ hk l_seen ?_ <;> rfl
                · refine xG W.n_SECOND_SEEN hk l_SECOND_SEEN ?_ <;> rfl
                rfl
              exact simc_and_nil
            · refine sims_cons ?_ ?_
              · refine pAugSub ?_ ?_ ?_ ?_
                · refine xL 1 ?_ hk l_octets ?_ <;> rfl
                · refine xL 6 ?_ hk l_spot ?_ <;> rfl
                · refine xG W.n_SECOND_SET hk l_SECOND_SET ?_ <;> rfl
                rfl
              refine sims_cons ?_ ?_
              · refine pAsg ?_ ?_ ?_ ?_ ?_
                · refine xG W.n_IS_SECOND hk l_IS_SECOND ?_ <;> rfl
                · refine simtg_sub ?_ ?_
                  · refine sim_sub ?_ ?_
                    · refine xAttr ?_ W.a_cM_rows ?_
                      · refine xL 0 ?_ hk l_self ?_ <;> rfl
                      rfl
                    refine xL 4 ?_ hk l_place ?_ <;> rfl
                  exact sim_int
                · rfl
                · rfl
                rfl
              refine sims_cons ?_ ?_
              · refine sims_ret ?_
                refine xL 4 ?_ hk l_place ?_ <;> rfl
              exact sims_nil
            exact sims_nil
          exact sims_nil
        refine sims_cons ?_ ?_
        · refine sims_if ?_ ?_ ?_
          · refine tCmp_ ?_ ?_ ?_
            · refine xL 7 ?_ hk l_state ?_ <;> rfl
            · refine xG W.n_IS_FIRST hk l_IS_FIRST ?_ <;> rfl
            rfl
          · refine sims_cons ?_ ?_
            · refine sims_if ?_ ?_ ?_
              · refine tCmp_ ?_ ?_ ?_
                · refine xL 3 ?_ hk l_seen ?_ <;> rfl
                · refine xG W.n_SECOND_SEEN hk l_SECOND_SEEN ?_ <;> rfl
                rfl
              · refine sims_cons ?_ ?_
                · refine sims_ret ?_
                  refine sim_un ?_
                  exact sim_int
                exact sims_nil
              exact sims_nil
            refine sims_cons ?_ ?_
            · refine pAsg ?_ ?_ ?_ ?_ ?_
              · refine xG W.n_FIRST_SEEN hk l_FIRST_SEEN ?_ <;> rfl
              · refine gName 3 ?_ hnd hk l_seen <;> rfl
              · rfl
              · rfl
              rfl
            exact sims_nil
          refine sims_cons ?_ ?_
          · refine sims_if ?_ ?_ ?_
            · refine tCmp_ ?_ ?_ ?_
              · refine xL 7 ?_ hk l_state ?_ <;> rfl
              · refine xG W.n_IS_SECOND hk l_IS_SECOND ?_ <;> rfl
              rfl
            · refine sims_cons ?_ ?_
              · refine sims_if ?_ ?_ ?_
                · refine tCmp_ ?_ ?_ ?_
                  · refine xL 3 ?_ hk l_seen ?_ <;> rfl
                  · refine xG W.n_FIRST_SEEN hk l_FIRST_SEEN ?_ <;> rfl
                  rfl
                · refine sims_cons ?_ ?_
                  · refine sims_ret ?_
                    refine sim_un ?_
                    exact sim_int
                  exact sims_nil
                exact sims_nil
              refine sims_cons ?_ ?_
              · refine pAsg ?_ ?_ ?_ ?_ ?_
                · refine xG W.n_SECOND_SEEN hk l_SECOND_SEEN ?_ <;> rfl
                · refine gName 3 ?_ hnd hk l_seen <;> rfl
                · rfl
                · rfl
                rfl
              exact sims_nil
            exact sims_nil
          exact sims_nil
        exact sims_nil
      exact sims_nil
    · rfl
    rfl
  refine sims_cons ?_ ?_
  · refine sims_ret ?_
    refine sim_un ?_
    exact sim_int
  exact sims_nil
noncomputable def nz_move : List Str := ["self", "octets", "size", "hit", "state", "row"]
theorem nd_move : nz_move.Nodup := by decide
noncomputable def m_move (D : Ad) : MS := (sSeq (sAssign (tName 3) (mMeth D.cM "hit" D.hitS (mLoc 0) (aCons (mLoc 1) (aCons (mLoc 2) aNil))))
  (sSeq (sIf (tCmp .Lt (mLoc 3) (mConst (.int 0)))
  (sSeq (sExpr (mLM .append (mAttr D.cM "rows" (mLoc 0)) (aCons (mList (aCons (mLoc 2) (aCons (mCall lenS (aCons (mLoc 1) aNil)) (aCons (mConst (.int 0)) aNil)))) aNil)))
  (sSeq (sExpr (mCall D.put_signedS (aCons (mLoc 1) (aCons (mAttr D.cM "plain" (mLoc 0)) (aCons (mLoc 2) aNil)))))
  (sSeq sRet0
  sNil)))
  sNil)
  (sSeq (sAssign (tName 4) (mSub (mSub (mAttr D.cM "rows" (mLoc 0)) (mLoc 3)) (mConst (.int 2))))
  (sSeq (sFor (tName 5) (mSlice (mAttr D.cM "rows" (mLoc 0)) (mBin .Add (mLoc 3) (mConst (.int 1))) (mConst .none))
  (sSeq (sAssign (tSub (mLoc 5) (mConst (.int 2))) (mCall D.barredS (aCons (mSub (mLoc 5) (mConst (.int 2))) (aCons (mLoc 4) aNil))))
  sNil))
  (sSeq (sExpr (mLM .append (mAttr D.cM "rows" (mLoc 0)) (aCons (mList (aCons (mLoc 2) (aCons (mCall lenS (aCons (mLoc 1) aNil)) (aCons (mLoc 4) aNil)))) aNil)))
  (sSeq (sExpr (mLM .append (mLoc 1) (aCons (mBin .Add (mAttr D.cM "plain" (mLoc 0)) (mIf (tCmp .Eq (mLoc 4) (mConst (.int 4))) (mConst (.int 4)) (mConst (.int 9)))) aNil)))
  sNil))))))
theorem s_move {V : Wd} {D : Ad} (W : Wb V D) (m_cM_hit : GMe V 9 D.cM "hit" D.hitS) (f_put_signed : GFn V 9 "put_signed" D.put_signedS) (f_barred : GFn V 9 "barred" D.barredS) : SimS V 10 "Moves.move" (fdScope (sub 16 2)) nz_move (execs (fdBody (sub 16 2))) (m_move D) := by
  have hnd := nd_move
  obtain ⟨sc, hsc⟩ : ∃ sc, sc = fdScope (sub 16 2) := ⟨_, rfl⟩
  rw [← hsc]
  have hk : sc.kind = .function := by rw [hsc]; rfl
  have l_self : sc.names.lookup ("self" : Str) = some .local := by rw [hsc]; rfl
  have l_octets : sc.names.lookup ("octets" : Str) = some .local := by rw [hsc]; rfl
  have l_size : sc.names.lookup ("size" : Str) = some .local := by rw [hsc]; rfl
  have l_hit : sc.names.lookup ("hit" : Str) = some .local := by rw [hsc]; rfl
  have l_len : sc.names.lookup ("len" : Str) = some .globalImplicit := by rw [hsc]; rfl
  have l_FREE : sc.names.lookup ("FREE" : Str) = some .globalImplicit := by rw [hsc]; rfl
  have l_put_signed : sc.names.lookup ("put_signed" : Str) = some .globalImplicit := by rw [hsc]; rfl
  have l_state : sc.names.lookup ("state" : Str) = some .local := by rw [hsc]; rfl
  have l_row : sc.names.lookup ("row" : Str) = some .local := by rw [hsc]; rfl
  have l_barred : sc.names.lookup ("barred" : Str) = some .globalImplicit := by rw [hsc]; rfl
  have l_IS_FIRST : sc.names.lookup ("IS_FIRST" : Str) = some .globalImplicit := by rw [hsc]; rfl
  have l_FIRST_AGAIN : sc.names.lookup ("FIRST_AGAIN" : Str) = some .globalImplicit := by rw [hsc]; rfl
  have l_SECOND_AGAIN : sc.names.lookup ("SECOND_AGAIN" : Str) = some .globalImplicit := by rw [hsc]; rfl
  refine sims_cons ?_ ?_
  · refine pAsg ?_ ?_ ?_ ?_ ?_
    · refine xMe ?_ m_cM_hit ?_ hk ?_ ?_ ?_ ?_
      · refine xL 0 ?_ hk l_self ?_ <;> rfl
      · refine lCons ?_ ?_
        · refine xL 1 ?_ hk l_octets ?_ <;> rfl
        refine lCons ?_ ?_
        · refine xL 2 ?_ hk l_size ?_ <;> rfl
        exact lNil
      · rfl
      · rfl
      · decide
      rfl
    · refine gName 3 ?_ hnd hk l_hit <;> rfl
    · rfl
    · rfl
    rfl
  refine sims_cons ?_ ?_
  · refine sims_if ?_ ?_ ?_
    · refine tCmp_ ?_ ?_ ?_
      · refine xL 3 ?_ hk l_hit ?_ <;> rfl
      · exact sim_int
      rfl
    · refine sims_cons ?_ ?_
      · refine pExpr ?_ hk ?_
        · refine xLM (k := .append) ?_ ?_ ?_ ?_ ?_ ?_ ?_
          · refine xAttr ?_ W.a_cM_rows ?_
            · refine xL 0 ?_ hk l_self ?_ <;> rfl
            rfl
          · refine lCons ?_ ?_
            · refine xList ?_ ?_
              · refine lCons ?_ ?_
                · refine xL 2 ?_ hk l_size ?_ <;> rfl
                refine lCons ?_ ?_
                · refine xBi bok_len W.b_len ?_ hk l_len ?_ ?_
                  · refine lCons ?_ ?_
                    · refine xL 1 ?_ hk l_octets ?_ <;> rfl
                    exact lNil
                  · rfl
                  rfl
                refine lCons ?_ ?_
                · refine xG W.n_FREE hk l_FREE ?_ <;> rfl
                exact lNil
              rfl
            exact lNil
          · rfl
          · rfl
          · rfl
          · decide
          rfl
        rfl
      refine sims_cons ?_ ?_
      · refine pExpr ?_ hk ?_
        · refine xCall f_put_signed ?_ hk l_put_signed ?_ ?_
          · refine lCons ?_ ?_
            · refine xL 1 ?_ hk l_octets ?_ <;> rfl
            refine lCons ?_ ?_
            · refine xAttr ?_ W.a_cM_plain ?_
              · refine xL 0 ?_ hk l_self ?_ <;> rfl
              rfl
            refine lCons ?_ ?_
            · refine xL 2 ?_ hk l_size ?_ <;> rfl
            exact lNil
          · rfl
          rfl
        rfl
      refine sims_cons ?_ ?_
      · exact sims_ret0
      exact sims_nil
    exact sims_nil
  refine sims_cons ?_ ?_
  · refine pAsg ?_ ?_ ?_ ?_ ?_
    · refine sim_sub ?_ ?_
      · refine sim_sub ?_ ?_
        · refine xAttr ?_ W.a_cM_rows ?_
          · refine xL 0 ?_ hk l_self ?_ <;> rfl
          rfl
        refine xL 3 ?_ hk l_hit ?_ <;> rfl
      exact sim_int
    · refine gName 4 ?_ hnd hk l_state <;> rfl
    · rfl
    · rfl
    rfl
  refine sims_cons ?_ ?_
  · refine pFor ?_ ?_ ?_ ?_
    · refine sim_slice ?_ ?_ ?_
      · refine xAttr ?_ W.a_cM_rows ?_
        · refine xL 0 ?_ hk l_self ?_ <;> rfl
        rfl
      · refine simo_some ?_
        refine sim_bin ?_ ?_
        · refine xL 3 ?_ hk l_hit ?_ <;> rfl
        exact sim_int
      exact simo_none
    · refine gName 5 ?_ hnd hk l_row <;> rfl
    · refine sims_cons ?_ ?_
      · refine pAsg ?_ ?_ ?_ ?_ ?_
        · refine xCall f_barred ?_ hk l_barred ?_ ?_
          · refine lCons ?_ ?_
            · refine sim_sub ?_ ?_
              · refine xL 5 ?_ hk l_row ?_ <;> rfl
              exact sim_int
            refine lCons ?_ ?_
            · refine xL 4 ?_ hk l_state ?_ <;> rfl
            exact lNil
          · rfl
          rfl
        · refine simtg_sub ?_ ?_
          · refine xL 5 ?_ hk l_row ?_ <;> rfl
          exact sim_int
        · rfl
        · rfl
        rfl
      exact sims_nil
    rfl
  refine sims_cons ?_ ?_
  · refine pExpr ?_ hk ?_
    · refine xLM (k := .append) ?_ ?_ ?_ ?_ ?_ ?_ ?_
      · refine xAttr ?_ W.a_cM_rows ?_
        · refine xL 0 ?_ hk l_self ?_ <;> rfl
        rfl
      · refine lCons ?_ ?_
        · refine xList ?_ ?_
          · refine lCons ?_ ?_
            · refine xL 2 ?_ hk l_size ?_ <;> rfl
            refine lCons ?_ ?_
            · refine xBi bok_len W.b_len ?_ hk l_len ?_ ?_
              · refine lCons ?_ ?_
                · refine xL 1 ?_ hk l_octets ?_ <;> rfl
                exact lNil
              · rfl
              rfl
            refine lCons ?_ ?_
            · refine xL 4 ?_ hk l_state ?_ <;> rfl
            exact lNil
          rfl
        exact lNil
      · rfl
      · rfl
      · rfl
      · decide
      rfl
    rfl
  refine sims_cons ?_ ?_
  · refine pExpr ?_ hk ?_
    · refine xLM (k := .append) ?_ ?_ ?_ ?_ ?_ ?_ ?_
      · refine xL 1 ?_ hk l_octets ?_ <;> rfl
      · refine lCons ?_ ?_
        · refine sim_bin ?_ ?_
          · refine xAttr ?_ W.a_cM_plain ?_
            · refine xL 0 ?_ hk l_self ?_ <;> rfl
            rfl
          refine sim_if ?_ ?_ ?_
          · refine tCmp_ ?_ ?_ ?_
            · refine xL 4 ?_ hk l_state ?_ <;> rfl
            · refine xG W.n_IS_FIRST hk l_IS_FIRST ?_ <;> rfl
            rfl
          · refine xG W.n_FIRST_AGAIN hk l_FIRST_AGAIN ?_ <;> rfl
          refine xG W.n_SECOND_AGAIN hk l_SECOND_AGAIN ?_ <;> rfl
        exact lNil
      · rfl
      · rfl
      · rfl
      · decide
      rfl
    rfl
  exact sims_nil
noncomputable def nz_pageInit : List Str := ["self", "fonts", "depth"]
theorem nd_pageInit : nz_pageInit.Nodup := by decide
noncomputable def m_pageInit (D : Ad) : MS := (sSeq (sAssign (tAttr D.cP "octets" (mLoc 0)) (mList aNil))
  (sSeq (sAssign (tAttr D.cP "fonts" (mLoc 0)) (mCall dictS (aCons (mLoc 1) aNil)))
  (sSeq (sAssign (tAttr D.cP "depth" (mLoc 0)) (mLoc 2))
  (sSeq (sAssign (tAttr D.cP "h" (mLoc 0)) (mConst (.int 0)))
  (sSeq (sAssign (tAttr D.cP "v" (mLoc 0)) (mConst (.int 0)))
  (sSeq (sAssign (tAttr D.cP "font" (mLoc 0)) (mUn .USub (mConst (.int 1))))
  (sSeq (sAssign (tAttr D.cP "across" (mLoc 0)) (mNew D.cM D.movesInitS (aCons (mConst (.int 143)) aNil)))
  (sSeq (sAssign (tAttr D.cP "down" (mLoc 0)) (mNew D.cM D.movesInitS (aCons (mConst (.int 157)) aNil)))
  (sSeq (sAssign (tAttr D.cP "deepest" (mLoc 0)) (mConst (.int 0)))
  sNil)))))))))
theorem s_pageInit {V : Wd} {D : Ad} (W : Wb V D) (c_Moves : GCl V 8 "Moves" D.cM D.movesInitS) : SimS V 10 "PageWriter.__init__" (fdScope (sub 18 0)) nz_pageInit (execs (fdBody (sub 18 0))) (m_pageInit D) := by
  have hnd := nd_pageInit
  obtain ⟨sc, hsc⟩ : ∃ sc, sc = fdScope (sub 18 0) := ⟨_, rfl⟩
  rw [← hsc]
  have hk : sc.kind = .function := by rw [hsc]; rfl
  have l_self : sc.names.lookup ("self" : Str) = some .local := by rw [hsc]; rfl
  have l_fonts : sc.names.lookup ("fonts" : Str) = some .local := by rw [hsc]; rfl
  have l_dict : sc.names.lookup ("dict" : Str) = some .globalImplicit := by rw [hsc]; rfl
  have l_depth : sc.names.lookup ("depth" : Str) = some .local := by rw [hsc]; rfl
  have l_RIGHT_1 : sc.names.lookup ("RIGHT_1" : Str) = some .globalImplicit := by rw [hsc]; rfl
  have l_Moves : sc.names.lookup ("Moves" : Str) = some .globalImplicit := by rw [hsc]; rfl
  have l_DOWN_1 : sc.names.lookup ("DOWN_1" : Str) = some .globalImplicit := by rw [hsc]; rfl
  refine sims_cons ?_ ?_
  · refine pAsg ?_ ?_ ?_ ?_ ?_
    · refine xList ?_ ?_
      · exact lNil
      rfl
    · refine simtg_attr ?_ W.s_cP_octets
      refine xL 0 ?_ hk l_self ?_ <;> rfl
    · rfl
    · rfl
    rfl
  refine sims_cons ?_ ?_
  · refine pAsg ?_ ?_ ?_ ?_ ?_
    · refine xBi bok_dict W.b_dict ?_ hk l_dict ?_ ?_
      · refine lCons ?_ ?_
        · refine xL 1 ?_ hk l_fonts ?_ <;> rfl
        exact lNil
      · rfl
      rfl
    · refine simtg_attr ?_ W.s_cP_fonts
      refine xL 0 ?_ hk l_self ?_ <;> rfl
    · rfl
    · rfl
    rfl
  refine sims_cons ?_ ?_
  · refine pAsg ?_ ?_ ?_ ?_ ?_
    · refine xL 2 ?_ hk l_depth ?_ <;> rfl
    · refine simtg_attr ?_ W.s_cP_depth
      refine xL 0 ?_ hk l_self ?_ <;> rfl
    · rfl
    · rfl
    rfl
  refine sims_cons ?_ ?_
  · refine pAsg ?_ ?_ ?_ ?_ ?_
    · exact sim_int
    · refine simtg_attr ?_ W.s_cP_h
      refine xL 0 ?_ hk l_self ?_ <;> rfl
    · rfl
    · rfl
    rfl
  refine sims_cons ?_ ?_
  · refine pAsg ?_ ?_ ?_ ?_ ?_
    · exact sim_int
    · refine simtg_attr ?_ W.s_cP_v
      refine xL 0 ?_ hk l_self ?_ <;> rfl
    · rfl
    · rfl
    rfl
  refine sims_cons ?_ ?_
  · refine pAsg ?_ ?_ ?_ ?_ ?_
    · refine sim_un ?_
      exact sim_int
    · refine simtg_attr ?_ W.s_cP_font
      refine xL 0 ?_ hk l_self ?_ <;> rfl
    · rfl
    · rfl
    rfl
  refine sims_cons ?_ ?_
  · refine pAsg ?_ ?_ ?_ ?_ ?_
    · refine xNew c_Moves ?_ hk l_Moves ?_ ?_
      · refine lCons ?_ ?_
        · refine xG W.n_RIGHT_1 hk l_RIGHT_1 ?_ <;> rfl
        exact lNil
      · rfl
      rfl
    · refine simtg_attr ?_ W.s_cP_across
      refine xL 0 ?_ hk l_self ?_ <;> rfl
    · rfl
    · rfl
    rfl
  refine sims_cons ?_ ?_
  · refine pAsg ?_ ?_ ?_ ?_ ?_
    · refine xNew c_Moves ?_ hk l_Moves ?_ ?_
      · refine lCons ?_ ?_
        · refine xG W.n_DOWN_1 hk l_DOWN_1 ?_ <;> rfl
        exact lNil
      · rfl
      rfl
    · refine simtg_attr ?_ W.s_cP_down
      refine xL 0 ?_ hk l_self ?_ <;> rfl
    · rfl
    · rfl
    rfl
  refine sims_cons ?_ ?_
  · refine pAsg ?_ ?_ ?_ ?_ ?_
    · exact sim_int
    · refine simtg_attr ?_ W.s_cP_deepest
      refine xL 0 ?_ hk l_self ?_ <;> rfl
    · rfl
    · rfl
    rfl
  exact sims_nil
noncomputable def nz_open_ : List Str := ["self", "depth"]
theorem nd_open_ : nz_open_.Nodup := by decide
noncomputable def m_open_ (D : Ad) : MS := (sSeq (sIf (tCmp .Gt (mLoc 1) (mAttr D.cP "depth" (mLoc 0)))
  (sSeq sNo
  sNil)
  sNil)
  (sSeq (sIf (tCmp .Gt (mLoc 1) (mConst (.int 0)))
  (sSeq (sExpr (mLM .append (mAttr D.cP "octets" (mLoc 0)) (aCons (mConst (.int 141)) aNil)))
  sNil)
  sNil)
  (sSeq (sRet (mCall lenS (aCons (mAttr D.cP "octets" (mLoc 0)) aNil)))
  sNil)))
theorem s_open_ {V : Wd} {D : Ad} (W : Wb V D)  : SimS V 8 "PageWriter.open" (fdScope (sub 18 1)) nz_open_ (execs (fdBody (sub 18 1))) (m_open_ D) := by
  have hnd := nd_open_
  obtain ⟨sc, hsc⟩ : ∃ sc, sc = fdScope (sub 18 1) := ⟨_, rfl⟩
  rw [← hsc]
  have hk : sc.kind = .function := by rw [hsc]; rfl
  have l_depth : sc.names.lookup ("depth" : Str) = some .local := by rw [hsc]; rfl
  have l_self : sc.names.lookup ("self" : Str) = some .local := by rw [hsc]; rfl
  have l_PUSH : sc.names.lookup ("PUSH" : Str) = some .globalImplicit := by rw [hsc]; rfl
  have l_len : sc.names.lookup ("len" : Str) = some .globalImplicit := by rw [hsc]; rfl
  refine sims_cons ?_ ?_
  · refine sims_if ?_ ?_ ?_
    · refine tCmp_ ?_ ?_ ?_
      · refine xL 1 ?_ hk l_depth ?_ <;> rfl
      · refine xAttr ?_ W.a_cP_depth ?_
        · refine xL 0 ?_ hk l_self ?_ <;> rfl
        rfl
      rfl
    · refine sims_cons ?_ ?_
      · exact sims_raise
      exact sims_nil
    exact sims_nil
  refine sims_cons ?_ ?_
  · refine sims_if ?_ ?_ ?_
    · refine tCmp_ ?_ ?_ ?_
      · refine xL 1 ?_ hk l_depth ?_ <;> rfl
      · exact sim_int
      rfl
    · refine sims_cons ?_ ?_
      · refine pExpr ?_ hk ?_
        · refine xLM (k := .append) ?_ ?_ ?_ ?_ ?_ ?_ ?_
          · refine xAttr ?_ W.a_cP_octets ?_
            · refine xL 0 ?_ hk l_self ?_ <;> rfl
            rfl
          · refine lCons ?_ ?_
            · refine xG W.n_PUSH hk l_PUSH ?_ <;> rfl
            exact lNil
          · rfl
          · rfl
          · rfl
          · decide
          rfl
        rfl
      exact sims_nil
    exact sims_nil
  refine sims_cons ?_ ?_
  · refine sims_ret ?_
    refine xBi bok_len W.b_len ?_ hk l_len ?_ ?_
    · refine lCons ?_ ?_
      · refine xAttr ?_ W.a_cP_octets ?_
        · refine xL 0 ?_ hk l_self ?_ <;> rfl
        rfl
      exact lNil
    · rfl
    rfl
  exact sims_nil
noncomputable def nz_close_ : List Str := ["self", "begin", "depth"]
theorem nd_close_ : nz_close_.Nodup := by decide
noncomputable def m_close_ (D : Ad) : MS := (sSeq (sExpr (mMeth D.cM "prune" D.pruneS (mAttr D.cP "across" (mLoc 0)) (aCons (mLoc 1) aNil)))
  (sSeq (sExpr (mMeth D.cM "prune" D.pruneS (mAttr D.cP "down" (mLoc 0)) (aCons (mLoc 1) aNil)))
  (sSeq (sIf (tAnd (tCmp .Gt (mLoc 2) (mConst (.int 0))) (tAnd (tCmp .Eq (mCall lenS (aCons (mAttr D.cP "octets" (mLoc 0)) aNil)) (mLoc 1)) tTrue))
  (sSeq (sExpr (mLM .pop (mAttr D.cP "octets" (mLoc 0)) aNil))
  sNil)
  (sSeq (sIf (tCmp .Gt (mLoc 2) (mConst (.int 0)))
  (sSeq (sExpr (mLM .append (mAttr D.cP "octets" (mLoc 0)) (aCons (mConst (.int 142)) aNil)))
  (sSeq (sAssign (tAttr D.cP "deepest" (mLoc 0)) (mCall maxS (aCons (mAttr D.cP "deepest" (mLoc 0)) (aCons (mLoc 2) aNil))))
  sNil))
  sNil)
  sNil))
  sNil)))
theorem s_close_ {V : Wd} {D : Ad} (W : Wb V D) (m_cM_prune : GMe V 8 D.cM "prune" D.pruneS) : SimS V 9 "PageWriter.close" (fdScope (sub 18 2)) nz_close_ (execs (fdBody (sub 18 2))) (m_close_ D) := by
  have hnd := nd_close_
  obtain ⟨sc, hsc⟩ : ∃ sc, sc = fdScope (sub 18 2) := ⟨_, rfl⟩
  rw [← hsc]
  have hk : sc.kind = .function := by rw [hsc]; rfl
  have l_self : sc.names.lookup ("self" : Str) = some .local := by rw [hsc]; rfl
  have l_begin : sc.names.lookup ("begin" : Str) = some .local := by rw [hsc]; rfl
  have l_len : sc.names.lookup ("len" : Str) = some .globalImplicit := by rw [hsc]; rfl
  have l_depth : sc.names.lookup ("depth" : Str) = some .local := by rw [hsc]; rfl
  have l_POP : sc.names.lookup ("POP" : Str) = some .globalImplicit := by rw [hsc]; rfl
  have l_max : sc.names.lookup ("max" : Str) = some .globalImplicit := by rw [hsc]; rfl
  refine sims_cons ?_ ?_
  · refine pExpr ?_ hk ?_
    · refine xMe ?_ m_cM_prune ?_ hk ?_ ?_ ?_ ?_
      · refine xAttr ?_ W.a_cP_across ?_
        · refine xL 0 ?_ hk l_self ?_ <;> rfl
        rfl
      · refine lCons ?_ ?_
        · refine xL 1 ?_ hk l_begin ?_ <;> rfl
        exact lNil
      · rfl
      · rfl
      · decide
      rfl
    rfl
  refine sims_cons ?_ ?_
  · refine pExpr ?_ hk ?_
    · refine xMe ?_ m_cM_prune ?_ hk ?_ ?_ ?_ ?_
      · refine xAttr ?_ W.a_cP_down ?_
        · refine xL 0 ?_ hk l_self ?_ <;> rfl
        rfl
      · refine lCons ?_ ?_
        · refine xL 1 ?_ hk l_begin ?_ <;> rfl
        exact lNil
      · rfl
      · rfl
      · decide
      rfl
    rfl
  refine sims_cons ?_ ?_
  · refine sims_if ?_ ?_ ?_
    · refine simc_and ?_ ?_
      · refine tCmp_ ?_ ?_ ?_
        · refine xL 2 ?_ hk l_depth ?_ <;> rfl
        · exact sim_int
        rfl
      refine simc_and ?_ ?_
      · refine tCmp_ ?_ ?_ ?_
        · refine xBi bok_len W.b_len ?_ hk l_len ?_ ?_
          · refine lCons ?_ ?_
            · refine xAttr ?_ W.a_cP_octets ?_
              · refine xL 0 ?_ hk l_self ?_ <;> rfl
              rfl
            exact lNil
          · rfl
          rfl
        · refine xL 1 ?_ hk l_begin ?_ <;> rfl
        rfl
      exact simc_and_nil
    · refine sims_cons ?_ ?_
      · refine pExpr ?_ hk ?_
        · refine xLM (k := .pop) ?_ ?_ ?_ ?_ ?_ ?_ ?_
          · refine xAttr ?_ W.a_cP_octets ?_
            · refine xL 0 ?_ hk l_self ?_ <;> rfl
            rfl
          · exact lNil
          · rfl
          · rfl
          · rfl
          · decide
          rfl
        rfl
      exact sims_nil
    refine sims_cons ?_ ?_
    · refine sims_if ?_ ?_ ?_
      · refine tCmp_ ?_ ?_ ?_
        · refine xL 2 ?_ hk l_depth ?_ <;> rfl
        · exact sim_int
        rfl
      · refine sims_cons ?_ ?_
        · refine pExpr ?_ hk ?_
          · refine xLM (k := .append) ?_ ?_ ?_ ?_ ?_ ?_ ?_
            · refine xAttr ?_ W.a_cP_octets ?_
              · refine xL 0 ?_ hk l_self ?_ <;> rfl
              rfl
            · refine lCons ?_ ?_
              · refine xG W.n_POP hk l_POP ?_ <;> rfl
              exact lNil
            · rfl
            · rfl
            · rfl
            · decide
            rfl
          rfl
        refine sims_cons ?_ ?_
        · refine pAsg ?_ ?_ ?_ ?_ ?_
          · refine xBi bok_max W.b_max ?_ hk l_max ?_ ?_
            · refine lCons ?_ ?_
              · refine xAttr ?_ W.a_cP_deepest ?_
                · refine xL 0 ?_ hk l_self ?_ <;> rfl
                rfl
              refine lCons ?_ ?_
              · refine xL 2 ?_ hk l_depth ?_ <;> rfl
              exact lNil
            · rfl
            rfl
          · refine simtg_attr ?_ W.s_cP_deepest
            refine xL 0 ?_ hk l_self ?_ <;> rfl
          · rfl
          · rfl
          rfl
        exact sims_nil
      exact sims_nil
    exact sims_nil
  exact sims_nil
noncomputable def nz_go_across : List Str := ["self", "h"]
theorem nd_go_across : nz_go_across.Nodup := by decide
noncomputable def m_go_across (D : Ad) : MS := (sSeq (sExpr (mCall D.check_placeS (aCons (mLoc 1) aNil)))
  (sSeq (sIf (tCmp .NotEq (mLoc 1) (mAttr D.cP "h" (mLoc 0)))
  (sSeq (sExpr (mMeth D.cM "move" D.moveS (mAttr D.cP "across" (mLoc 0)) (aCons (mAttr D.cP "octets" (mLoc 0)) (aCons (mBin .Sub (mLoc 1) (mAttr D.cP "h" (mLoc 0))) aNil))))
  (sSeq (sAssign (tAttr D.cP "h" (mLoc 0)) (mLoc 1))
  sNil))
  sNil)
  sNil))
theorem s_go_across {V : Wd} {D : Ad} (W : Wb V D) (f_check_place : GFn V 10 "check_place" D.check_placeS) (m_cM_move : GMe V 10 D.cM "move" D.moveS) : SimS V 11 "PageWriter.go_across" (fdScope (sub 18 3)) nz_go_across (execs (fdBody (sub 18 3))) (m_go_across D) := by
  have hnd := nd_go_across
  obtain ⟨sc, hsc⟩ : ∃ sc, sc = fdScope (sub 18 3) := ⟨_, rfl⟩
  rw [← hsc]
  have hk : sc.kind = .function := by rw [hsc]; rfl
  have l_h : sc.names.lookup ("h" : Str) = some .local := by rw [hsc]; rfl
  have l_check_place : sc.names.lookup ("check_place" : Str) = some .globalImplicit := by rw [hsc]; rfl
  have l_self : sc.names.lookup ("self" : Str) = some .local := by rw [hsc]; rfl
  refine sims_cons ?_ ?_
  · refine pExpr ?_ hk ?_
    · refine xCall f_check_place ?_ hk l_check_place ?_ ?_
      · refine lCons ?_ ?_
        · refine xL 1 ?_ hk l_h ?_ <;> rfl
        exact lNil
      · rfl
      rfl
    rfl
  refine sims_cons ?_ ?_
  · refine sims_if ?_ ?_ ?_
    · refine tCmp_ ?_ ?_ ?_
      · refine xL 1 ?_ hk l_h ?_ <;> rfl
      · refine xAttr ?_ W.a_cP_h ?_
        · refine xL 0 ?_ hk l_self ?_ <;> rfl
        rfl
      rfl
    · refine sims_cons ?_ ?_
      · refine pExpr ?_ hk ?_
        · refine xMe ?_ m_cM_move ?_ hk ?_ ?_ ?_ ?_
          · refine xAttr ?_ W.a_cP_across ?_
            · refine xL 0 ?_ hk l_self ?_ <;> rfl
            rfl
          · refine lCons ?_ ?_
            · refine xAttr ?_ W.a_cP_octets ?_
              · refine xL 0 ?_ hk l_self ?_ <;> rfl
              rfl
            refine lCons ?_ ?_
            · refine sim_bin ?_ ?_
              · refine xL 1 ?_ hk l_h ?_ <;> rfl
              refine xAttr ?_ W.a_cP_h ?_
              · refine xL 0 ?_ hk l_self ?_ <;> rfl
              rfl
            exact lNil
          · rfl
          · rfl
          · decide
          rfl
        rfl
      refine sims_cons ?_ ?_
      · refine pAsg ?_ ?_ ?_ ?_ ?_
        · refine xL 1 ?_ hk l_h ?_ <;> rfl
        · refine simtg_attr ?_ W.s_cP_h
          refine xL 0 ?_ hk l_self ?_ <;> rfl
        · rfl
        · rfl
        rfl
      exact sims_nil
    exact sims_nil
  exact sims_nil
noncomputable def nz_go_down : List Str := ["self", "v"]
theorem nd_go_down : nz_go_down.Nodup := by decide
noncomputable def m_go_down (D : Ad) : MS := (sSeq (sExpr (mCall D.check_placeS (aCons (mLoc 1) aNil)))
  (sSeq (sIf (tCmp .NotEq (mLoc 1) (mAttr D.cP "v" (mLoc 0)))
  (sSeq (sExpr (mMeth D.cM "move" D.moveS (mAttr D.cP "down" (mLoc 0)) (aCons (mAttr D.cP "octets" (mLoc 0)) (aCons (mBin .Sub (mLoc 1) (mAttr D.cP "v" (mLoc 0))) aNil))))
  (sSeq (sAssign (tAttr D.cP "v" (mLoc 0)) (mLoc 1))
  sNil))
  sNil)
  sNil))
theorem s_go_down {V : Wd} {D : Ad} (W : Wb V D) (f_check_place : GFn V 10 "check_place" D.check_placeS) (m_cM_move : GMe V 10 D.cM "move" D.moveS) : SimS V 11 "PageWriter.go_down" (fdScope (sub 18 4)) nz_go_down (execs (fdBody (sub 18 4))) (m_go_down D) := by
  have hnd := nd_go_down
  obtain ⟨sc, hsc⟩ : ∃ sc, sc = fdScope (sub 18 4) := ⟨_, rfl⟩
  rw [← hsc]
  have hk : sc.kind = .function := by rw [hsc]; rfl
  have l_v : sc.names.lookup ("v" : Str) = some .local := by rw [hsc]; rfl
  have l_check_place : sc.names.lookup ("check_place" : Str) = some .globalImplicit := by rw [hsc]; rfl
  have l_self : sc.names.lookup ("self" : Str) = some .local := by rw [hsc]; rfl
  refine sims_cons ?_ ?_
  · refine pExpr ?_ hk ?_
    · refine xCall f_check_place ?_ hk l_check_place ?_ ?_
      · refine lCons ?_ ?_
        · refine xL 1 ?_ hk l_v ?_ <;> rfl
        exact lNil
      · rfl
      rfl
    rfl
  refine sims_cons ?_ ?_
  · refine sims_if ?_ ?_ ?_
    · refine tCmp_ ?_ ?_ ?_
      · refine xL 1 ?_ hk l_v ?_ <;> rfl
      · refine xAttr ?_ W.a_cP_v ?_
        · refine xL 0 ?_ hk l_self ?_ <;> rfl
        rfl
      rfl
    · refine sims_cons ?_ ?_
      · refine pExpr ?_ hk ?_
        · refine xMe ?_ m_cM_move ?_ hk ?_ ?_ ?_ ?_
          · refine xAttr ?_ W.a_cP_down ?_
            · refine xL 0 ?_ hk l_self ?_ <;> rfl
            rfl
          · refine lCons ?_ ?_
            · refine xAttr ?_ W.a_cP_octets ?_
              · refine xL 0 ?_ hk l_self ?_ <;> rfl
              rfl
            refine lCons ?_ ?_
            · refine sim_bin ?_ ?_
              · refine xL 1 ?_ hk l_v ?_ <;> rfl
              refine xAttr ?_ W.a_cP_v ?_
              · refine xL 0 ?_ hk l_self ?_ <;> rfl
              rfl
            exact lNil
          · rfl
          · rfl
          · decide
          rfl
        rfl
      refine sims_cons ?_ ?_
      · refine pAsg ?_ ?_ ?_ ?_ ?_
        · refine xL 1 ?_ hk l_v ?_ <;> rfl
        · refine simtg_attr ?_ W.s_cP_v
          refine xL 0 ?_ hk l_self ?_ <;> rfl
        · rfl
        · rfl
        rfl
      exact sims_nil
    exact sims_nil
  exact sims_nil
noncomputable def nz_special : List Str := ["self", "octets", "h", "v"]
theorem nd_special : nz_special.Nodup := by decide
noncomputable def m_special (D : Ad) : MS := (sSeq (sExpr (mMeth D.cP "go_across" D.go_acrossS (mLoc 0) (aCons (mLoc 2) aNil)))
  (sSeq (sExpr (mMeth D.cP "go_down" D.go_downS (mLoc 0) (aCons (mLoc 3) aNil)))
  (sSeq (sExpr (mCall D.put_countedS (aCons (mAttr D.cP "octets" (mLoc 0)) (aCons (mConst (.int 239)) (aCons (mCall lenS (aCons (mLoc 1) aNil)) aNil)))))
  (sSeq (sExpr (mLM .extend (mAttr D.cP "octets" (mLoc 0)) (aCons (mLoc 1) aNil)))
  sNil))))
theorem s_special {V : Wd} {D : Ad} (W : Wb V D) (m_cP_go_across : GMe V 11 D.cP "go_across" D.go_acrossS) (m_cP_go_down : GMe V 11 D.cP "go_down" D.go_downS) (f_put_counted : GFn V 11 "put_counted" D.put_countedS) : SimS V 12 "PageWriter.special" (fdScope (sub 18 8)) nz_special (execs (fdBody (sub 18 8))) (m_special D) := by
  have hnd := nd_special
  obtain ⟨sc, hsc⟩ : ∃ sc, sc = fdScope (sub 18 8) := ⟨_, rfl⟩
  rw [← hsc]
  have hk : sc.kind = .function := by rw [hsc]; rfl
  have l_self : sc.names.lookup ("self" : Str) = some .local := by rw [hsc]; rfl
  have l_h : sc.names.lookup ("h" : Str) = some .local := by rw [hsc]; rfl
  have l_v : sc.names.lookup ("v" : Str) = some .local := by rw [hsc]; rfl
  have l_SPECIAL_1 : sc.names.lookup ("SPECIAL_1" : Str) = some .globalImplicit := by rw [hsc]; rfl
  have l_octets : sc.names.lookup ("octets" : Str) = some .local := by rw [hsc]; rfl
  have l_len : sc.names.lookup ("len" : Str) = some .globalImplicit := by rw [hsc]; rfl
  have l_put_counted : sc.names.lookup ("put_counted" : Str) = some .globalImplicit := by rw [hsc]; rfl
  refine sims_cons ?_ ?_
  · refine pExpr ?_ hk ?_
    · refine xMe ?_ m_cP_go_across ?_ hk ?_ ?_ ?_ ?_
      · refine xL 0 ?_ hk l_self ?_ <;> rfl
      · refine lCons ?_ ?_
        · refine xL 2 ?_ hk l_h ?_ <;> rfl
        exact lNil
      · rfl
      · rfl
      · decide
      rfl
    rfl
  refine sims_cons ?_ ?_
  · refine pExpr ?_ hk ?_
    · refine xMe ?_ m_cP_go_down ?_ hk ?_ ?_ ?_ ?_
      · refine xL 0 ?_ hk l_self ?_ <;> rfl
      · refine lCons ?_ ?_
        · refine xL 3 ?_ hk l_v ?_ <;> rfl
        exact lNil
      · rfl
      · rfl
      · decide
      rfl
    rfl
  refine sims_cons ?_ ?_
  · refine pExpr ?_ hk ?_
    · refine xCall f_put_counted ?_ hk l_put_counted ?_ ?_
      · refine lCons ?_ ?_
        · refine xAttr ?_ W.a_cP_octets ?_
          · refine xL 0 ?_ hk l_self ?_ <;> rfl
          rfl
        refine lCons ?_ ?_
        · refine xG W.n_SPECIAL_1 hk l_SPECIAL_1 ?_ <;> rfl
        refine lCons ?_ ?_
        · refine xBi bok_len W.b_len ?_ hk l_len ?_ ?_
          · refine lCons ?_ ?_
            · refine xL 1 ?_ hk l_octets ?_ <;> rfl
            exact lNil
          · rfl
          rfl
        exact lNil
      · rfl
      rfl
    rfl
  refine sims_cons ?_ ?_
  · refine pExpr ?_ hk ?_
    · refine xLM (k := .extend) ?_ ?_ ?_ ?_ ?_ ?_ ?_
      · refine xAttr ?_ W.a_cP_octets ?_
        · refine xL 0 ?_ hk l_self ?_ <;> rfl
        rfl
      · refine lCons ?_ ?_
        · refine xL 1 ?_ hk l_octets ?_ <;> rfl
        exact lNil
      · rfl
      · rfl
      · rfl
      · decide
      rfl
    rfl
  exact sims_nil
noncomputable def nz_law_take : List Str := ["box", "many", "mixed", "digit"]
theorem nd_law_take : nz_law_take.Nodup := by decide
noncomputable def m_law_take (D : Ad) : MS := (sSeq (sIf (tCmp .GtE (mSub (mLoc 0) (mConst (.int 0))) (mBin .Pow (mConst (.int 10)) (mConst (.int 18))))
  (sSeq (sAssign (tName 3) (mBin .Mod (mSub (mLoc 0) (mConst (.int 0))) (mLoc 1)))
  (sSeq (sAssign (tSub (mLoc 0) (mConst (.int 0))) (mBin .FloorDiv (mSub (mLoc 0) (mConst (.int 0))) (mLoc 1)))
  (sSeq (sRet (mLoc 3))
  sNil)))
  sNil)
  (sSeq (sAssign (tSub (mLoc 0) (mConst (.int 1))) (mBin .Add (mSub (mLoc 0) (mConst (.int 1))) (mConst (.int 1))))
  (sSeq (sAssign (tName 2) (mBin .Mod (mBin .Pow (mBin .Add (mBin .Add (mSub (mLoc 0) (mConst (.int 2))) (mBin .Mult (mConst (.int 7103)) (mSub (mLoc 0) (mConst (.int 1))))) (mConst (.int 20023))) (mConst (.int 5))) (mConst (.int 2147483647))))
  (sSeq (sRet (mBin .Mod (mBin .FloorDiv (mBin .Mod (mBin .Mult (mLoc 2) (mLoc 2)) (mConst (.int 2147483563))) (mConst (.int 16))) (mLoc 1)))
  sNil))))
theorem s_law_take {V : Wd} {D : Ad} (W : Wb V D)  : SimS V 8 "_law_take" (fdScope (top 21)) nz_law_take (execs (fdBody (top 21))) (m_law_take D) := by
  have hnd := nd_law_take
  obtain ⟨sc, hsc⟩ : ∃ sc, sc = fdScope (top 21) := ⟨_, rfl⟩
  rw [← hsc]
  have hk : sc.kind = .function := by rw [hsc]; rfl
  have l_box : sc.names.lookup ("box" : Str) = some .local := by rw [hsc]; rfl
  have l_many : sc.names.lookup ("many" : Str) = some .local := by rw [hsc]; rfl
  have l_digit : sc.names.lookup ("digit" : Str) = some .local := by rw [hsc]; rfl
  have l_mixed : sc.names.lookup ("mixed" : Str) = some .local := by rw [hsc]; rfl
  refine sims_cons ?_ ?_
  · refine sims_if ?_ ?_ ?_
    · refine tCmp_ ?_ ?_ ?_
      · refine sim_sub ?_ ?_
        · refine xL 0 ?_ hk l_box ?_ <;> rfl
        exact sim_int
      · refine sim_bin ?_ ?_
        · exact sim_int
        exact sim_int
      rfl
    · refine sims_cons ?_ ?_
      · refine pAsg ?_ ?_ ?_ ?_ ?_
        · refine sim_bin ?_ ?_
          · refine sim_sub ?_ ?_
            · refine xL 0 ?_ hk l_box ?_ <;> rfl
            exact sim_int
          refine xL 1 ?_ hk l_many ?_ <;> rfl
        · refine gName 3 ?_ hnd hk l_digit <;> rfl
        · rfl
        · rfl
        rfl
      refine sims_cons ?_ ?_
      · refine pAsg ?_ ?_ ?_ ?_ ?_
        · refine sim_bin ?_ ?_
          · refine sim_sub ?_ ?_
            · refine xL 0 ?_ hk l_box ?_ <;> rfl
            exact sim_int
          refine xL 1 ?_ hk l_many ?_ <;> rfl
        · refine simtg_sub ?_ ?_
          · refine xL 0 ?_ hk l_box ?_ <;> rfl
          exact sim_int
        · rfl
        · rfl
        rfl
      refine sims_cons ?_ ?_
      · refine sims_ret ?_
        refine xL 3 ?_ hk l_digit ?_ <;> rfl
      exact sims_nil
    exact sims_nil
  refine sims_cons ?_ ?_
  · refine pAsg ?_ ?_ ?_ ?_ ?_
    · refine sim_bin ?_ ?_
      · refine sim_sub ?_ ?_
        · refine xL 0 ?_ hk l_box ?_ <;> rfl
        exact sim_int
      exact sim_int
    · refine simtg_sub ?_ ?_
      · refine xL 0 ?_ hk l_box ?_ <;> rfl
      exact sim_int
    · rfl
    · rfl
    rfl
  refine sims_cons ?_ ?_
  · refine pAsg ?_ ?_ ?_ ?_ ?_
    · refine sim_bin ?_ ?_
      · refine sim_bin ?_ ?_
        · refine sim_bin ?_ ?_
          · refine sim_bin ?_ ?_
            · refine sim_sub ?_ ?_
              · refine xL 0 ?_ hk l_box ?_ <;> rfl
              exact sim_int
            refine sim_bin ?_ ?_
            · exact sim_int
            refine sim_sub ?_ ?_
            · refine xL 0 ?_ hk l_box ?_ <;> rfl
            exact sim_int
          exact sim_int
        exact sim_int
      exact sim_int
    · refine gName 2 ?_ hnd hk l_mixed <;> rfl
    · rfl
    · rfl
    rfl
  refine sims_cons ?_ ?_
  · refine sims_ret ?_
    refine sim_bin ?_ ?_
    · refine sim_bin ?_ ?_
      · refine sim_bin ?_ ?_
        · refine sim_bin ?_ ?_
          · refine xL 2 ?_ hk l_mixed ?_ <;> rfl
          refine xL 2 ?_ hk l_mixed ?_ <;> rfl
        exact sim_int
      exact sim_int
    refine xL 1 ?_ hk l_many ?_ <;> rfl
  exact sims_nil
noncomputable def nz_law_steps : List Str := ["script", "found", "k", "box", "lap", "far", "way", "one", "two"]
theorem nd_law_steps : nz_law_steps.Nodup := by decide
noncomputable def m_law_steps (D : Ad) : MS := (sSeq (sAssign (tName 1) (mList aNil))
  (sSeq (sForR (tName 2) (aCons (mConst (.int 4)) aNil)
  (sSeq (sAssign (tName 3) (mCall D.law_boxS (aCons (mLoc 0) (aCons (mLoc 2) aNil))))
  (sSeq (sForR (tName 4) (aCons (mConst (.int 6)) aNil)
  (sSeq (sSwap [6, 7, 8] (mTup (aCons (mCall D.law_takeS (aCons (mLoc 3) (aCons (mConst (.int 8)) aNil))) (aCons (mCall D.law_takeS (aCons (mLoc 3) (aCons (mConst (.int 8)) aNil))) (aCons (mCall D.law_takeS (aCons (mLoc 3) (aCons (mConst (.int 8)) aNil))) aNil)))))
  (sSeq (sAssign (tName 5) (mTup (aCons (mSub (mTup (aCons (mConst (.int 0)) (aCons (mConst (.int 5)) (aCons (mUn .USub (mConst (.int 7))) (aCons (mConst (.int 40)) (aCons (mConst (.int 300)) (aCons (mConst (.int 5)) (aCons (mConst (.int 40)) (aCons (mConst (.int 70000)) aNil))))))))) (mLoc 7)) (aCons (mSub (mTup (aCons (mConst (.int 0)) (aCons (mConst (.int 3)) (aCons (mUn .USub (mConst (.int 128))) (aCons (mConst (.int 20)) (aCons (mConst (.int 3)) (aCons (mConst (.int 20)) (aCons (mConst (.int 10000000)) (aCons (mUn .USub (mConst (.int 3))) aNil))))))))) (mLoc 8)) aNil))))
  (sSeq (sExpr (mLM .append (mLoc 1) (aCons (mTup (aCons (mSub (mTup (aCons (mConst (.int 0)) (aCons (mConst (.int 0)) (aCons (mConst (.int 0)) (aCons (mConst (.int 0)) (aCons (mConst (.int 0)) (aCons (mConst (.int 1)) (aCons (mConst (.int 2)) (aCons (mConst (.int 0)) aNil))))))))) (mLoc 6)) (aCons (mSub (mLoc 5) (mConst (.int 0))) (aCons (mSub (mLoc 5) (mConst (.int 1))) aNil)))) aNil)))
  sNil))))
  sNil)))
  (sSeq (sRet (mLoc 1))
  sNil)))
theorem s_law_steps {V : Wd} {D : Ad} (W : Wb V D) (f__law_box : GFn V 8 "_law_box" D.law_boxS) (f__law_take : GFn V 8 "_law_take" D.law_takeS) : SimS V 9 "_law_steps" (fdScope (top 22)) nz_law_steps (execs (fdBody (top 22))) (m_law_steps D) := by
  have hnd := nd_law_steps
  obtain ⟨sc, hsc⟩ : ∃ sc, sc = fdScope (top 22) := ⟨_, rfl⟩
  rw [← hsc]
  have hk : sc.kind = .function := by rw [hsc]; rfl
  have l_found : sc.names.lookup ("found" : Str) = some .local := by rw [hsc]; rfl
  have l_k : sc.names.lookup ("k" : Str) = some .local := by rw [hsc]; rfl
  have l_script : sc.names.lookup ("script" : Str) = some .local := by rw [hsc]; rfl
  have l__law_box : sc.names.lookup ("_law_box" : Str) = some .globalImplicit := by rw [hsc]; rfl
  have l_box : sc.names.lookup ("box" : Str) = some .local := by rw [hsc]; rfl
  have l_lap : sc.names.lookup ("lap" : Str) = some .local := by rw [hsc]; rfl
  have l__law_take : sc.names.lookup ("_law_take" : Str) = some .globalImplicit := by rw [hsc]; rfl
  have l_one : sc.names.lookup ("one" : Str) = some .local := by rw [hsc]; rfl
  have l_two : sc.names.lookup ("two" : Str) = some .local := by rw [hsc]; rfl
  have l_far : sc.names.lookup ("far" : Str) = some .local := by rw [hsc]; rfl
  have l_way : sc.names.lookup ("way" : Str) = some .local := by rw [hsc]; rfl
  have l_range : sc.names.lookup ("range" : Str) = some .globalImplicit := by rw [hsc]; rfl
  refine sims_cons ?_ ?_
  · refine pAsg ?_ ?_ ?_ ?_ ?_
    · refine xList ?_ ?_
      · exact lNil
      rfl
    · refine gName 1 ?_ hnd hk l_found <;> rfl
    · rfl
    · rfl
    rfl
  refine sims_cons ?_ ?_
  · refine pForR W.b_range ?_ ?_ ?_ hk l_range ?_ ?_
    · refine lCons ?_ ?_
      · exact sim_int
      exact lNil
    · refine gName 2 ?_ hnd hk l_k <;> rfl
    · refine sims_cons ?_ ?_
      · refine pAsg ?_ ?_ ?_ ?_ ?_
        · refine xCall f__law_box ?_ hk l__law_box ?_ ?_
          · refine lCons ?_ ?_
            · refine xL 0 ?_ hk l_script ?_ <;> rfl
            refine lCons ?_ ?_
            · refine xL 2 ?_ hk l_k ?_ <;> rfl
            exact lNil
          · rfl
          rfl
        · refine gName 3 ?_ hnd hk l_box <;> rfl
        · rfl
        · rfl
        rfl
      refine sims_cons ?_ ?_
      · refine pForR W.b_range ?_ ?_ ?_ hk l_range ?_ ?_
        · refine lCons ?_ ?_
          · exact sim_int
          exact lNil
        · refine gName 4 ?_ hnd hk l_lap <;> rfl
        · refine sims_cons ?_ ?_
          · refine pSwap (names := ["way", "one", "two"]) ?_ ?_ ?_ ?_ ?_ hnd hk ?_
            · refine xTup ?_ ?_
              · refine lCons ?_ ?_
                · refine xCall f__law_take ?_ hk l__law_take ?_ ?_
                  · refine lCons ?_ ?_
                    · refine xL 3 ?_ hk l_box ?_ <;> rfl
                    refine lCons ?_ ?_
                    · exact sim_int
                    exact lNil
                  · rfl
                  rfl
                refine lCons ?_ ?_
                · refine xCall f__law_take ?_ hk l__law_take ?_ ?_
                  · refine lCons ?_ ?_
                    · refine xL 3 ?_ hk l_box ?_ <;> rfl
                    refine lCons ?_ ?_
                    · exact sim_int
                    exact lNil
                  · rfl
                  rfl
                refine lCons ?_ ?_
                · refine xCall f__law_take ?_ hk l__law_take ?_ ?_
                  · refine lCons ?_ ?_
                    · refine xL 3 ?_ hk l_box ?_ <;> rfl
                    refine lCons ?_ ?_
                    · exact sim_int
                    exact lNil
                  · rfl
                  rfl
                exact lNil
              rfl
            · rfl
            · exact (fun _ _ _ => by rw [hsc]; rfl)
            · rfl
            · decide
            rw [hsc]; rfl
          refine sims_cons ?_ ?_
          · refine pAsg ?_ ?_ ?_ ?_ ?_
            · refine xTup ?_ ?_
              · refine lCons ?_ ?_
                · refine sim_sub ?_ ?_
                  · refine xTup ?_ ?_
                    · refine lCons ?_ ?_
                      · exact sim_int
                      refine lCons ?_ ?_
                      · exact sim_int
                      refine lCons ?_ ?_
                      · refine sim_un ?_
                        exact sim_int
                      refine lCons ?_ ?_
                      · exact sim_int
                      refine lCons ?_ ?_
                      · exact sim_int
                      refine lCons ?_ ?_
                      · exact sim_int
                      refine lCons ?_ ?_
                      · exact sim_int
                      refine lCons ?_ ?_
                      · exact sim_int
                      exact lNil
                    rfl
                  refine xL 7 ?_ hk l_one ?_ <;> rfl
                refine lCons ?_ ?_
                · refine sim_sub ?_ ?_
                  · refine xTup ?_ ?_
                    · refine lCons ?_ ?_
                      · exact sim_int
                      refine lCons ?_ ?_
                      · exact sim_int
                      refine lCons ?_ ?_
                      · refine sim_un ?_
                        exact sim_int
                      refine lCons ?_ ?_
                      · exact sim_int
                      refine lCons ?_ ?_
                      · exact sim_int
                      refine lCons ?_ ?_
                      · exact sim_int
                      refine lCons ?_ ?_
                      · exact sim_int
                      refine lCons ?_ ?_
                      · refine sim_un ?_
                        exact sim_int
                      exact lNil
                    rfl
                  refine xL 8 ?_ hk l_two ?_ <;> rfl
                exact lNil
              rfl
            · refine gName 5 ?_ hnd hk l_far <;> rfl
            · rfl
            · rfl
            rfl
          refine sims_cons ?_ ?_
          · refine pExpr ?_ hk ?_
            · refine xLM (k := .append) ?_ ?_ ?_ ?_ ?_ ?_ ?_
              · refine xL 1 ?_ hk l_found ?_ <;> rfl
              · refine lCons ?_ ?_
                · refine xTup ?_ ?_
                  · refine lCons ?_ ?_
                    · refine sim_sub ?_ ?_
                      · refine xTup ?_ ?_
                        · refine lCons ?_ ?_
                          · exact sim_int
                          refine lCons ?_ ?_
                          · exact sim_int
                          refine lCons ?_ ?_
                          · exact sim_int
                          refine lCons ?_ ?_
                          · exact sim_int
                          refine lCons ?_ ?_
                          · exact sim_int
                          refine lCons ?_ ?_
                          · exact sim_int
                          refine lCons ?_ ?_
                          · exact sim_int
                          refine lCons ?_ ?_
                          · exact sim_int
                          exact lNil
                        rfl
                      refine xL 6 ?_ hk l_way ?_ <;> rfl
                    refine lCons ?_ ?_
                    · refine sim_sub ?_ ?_
                      · refine xL 5 ?_ hk l_far ?_ <;> rfl
                      exact sim_int
                    refine lCons ?_ ?_
                    · refine sim_sub ?_ ?_
                      · refine xL 5 ?_ hk l_far ?_ <;> rfl
                      exact sim_int
                    exact lNil
                  rfl
                exact lNil
              · rfl
              · rfl
              · rfl
              · decide
              rfl
            rfl
          exact sims_nil
        · rfl
        rfl
      exact sims_nil
    · rfl
    rfl
  refine sims_cons ?_ ?_
  · refine sims_ret ?_
    refine xL 1 ?_ hk l_found ?_ <;> rfl
  exact sims_nil
noncomputable def nz_law_written : List Str := ["steps", "opened", "page", "rows", "kept", "spot", "latest", "what", "aside", "down", "begin", "h", "v", "near"]
theorem nd_law_written : nz_law_written.Nodup := by decide
noncomputable def m_law_written (D : Ad) : MS := (sSeq (sAssign (tTup [(tName 2), (tName 3), (tName 4), (tName 5), (tName 6)]) (mTup (aCons (mNew D.cP D.pageInitS (aCons mDict (aCons (mConst (.int 4)) aNil))) (aCons (mList aNil) (aCons (mList aNil) (aCons (mList (aCons (mConst (.int 0)) (aCons (mConst (.int 0)) aNil))) (aCons (mList (aCons (mList aNil) (aCons (mList aNil) aNil))) aNil)))))))
  (sSeq (sAssign (tName 1) (mMeth D.cP "open" D.open_S (mLoc 2) (aCons (mConst (.int 0)) aNil)))
  (sSeq (sFor (tTup [(tName 7), (tName 8), (tName 9)]) (mBin .Add (mLoc 0) (mBin .Mult (mList (aCons (mTup (aCons (mConst (.int 2)) (aCons (mConst (.int 0)) (aCons (mConst (.int 0)) aNil)))) aNil)) (mConst (.int 4))))
  (sSeq (sIf (tAnd (tCmp .Eq (mLoc 7) (mConst (.int 1))) (tAnd (tCmp .Lt (mCall lenS (aCons (mLoc 4) aNil)) (mConst (.int 4))) tTrue))
  (sSeq (sExpr (mLM .append (mLoc 4) (aCons (mTup (aCons (mMeth D.cP "open" D.open_S (mLoc 2) (aCons (mBin .Add (mCall lenS (aCons (mLoc 4) aNil)) (mConst (.int 1))) aNil)) (aCons (mAttr D.cP "h" (mLoc 2)) (aCons (mAttr D.cP "v" (mLoc 2)) aNil)))) aNil)))
  (sSeq (sAssign (tName 6) (mList (aCons (mList aNil) (aCons (mList aNil) aNil))))
  sNil))
  (sSeq (sIf (tAnd (tCmp .Eq (mLoc 7) (mConst (.int 2))) (tAnd (tCmp .NotEq (mLoc 4) (mList aNil)) tTrue))
  (sSeq (sAssign (tTup [(tName 10), (tName 11), (tName 12)]) (mLM .pop (mLoc 4) aNil))
  (sSeq (sExpr (mMeth D.cP "close" D.close_S (mLoc 2) (aCons (mLoc 10) (aCons (mBin .Add (mCall lenS (aCons (mLoc 4) aNil)) (mConst (.int 1))) aNil))))
  (sSeq (sAssign (tTup [(tAttr D.cP "h" (mLoc 2)), (tAttr D.cP "v" (mLoc 2))]) (mTup (aCons (mLoc 11) (aCons (mLoc 12) aNil))))
  (sSeq (sSwap [5, 6] (mTup (aCons (mList (aCons (mLoc 11) (aCons (mLoc 12) aNil))) (aCons (mList (aCons (mList aNil) (aCons (mList aNil) aNil))) aNil))))
  sNil))))
  (sSeq (sIf (tCmp .Eq (mLoc 7) (mConst (.int 0)))
  (sSeq (sAssign (tName 5) (mList (aCons (mBin .Add (mSub (mLoc 5) (mConst (.int 0))) (mLoc 8)) (aCons (mBin .Add (mSub (mLoc 5) (mConst (.int 1))) (mLoc 9)) aNil))))
  (sSeq (sAssign (tName 13) (mList (aCons (mCmp .In (mLoc 8) (mSlice (mSub (mLoc 6) (mConst (.int 0))) (mUn .USub (mConst (.int 2))) (mConst .none))) (aCons (mCmp .In (mLoc 9) (mSlice (mSub (mLoc 6) (mConst (.int 1))) (mUn .USub (mConst (.int 2))) (mConst .none))) aNil))))
  (sSeq (sExpr (mMeth D.cP "special" D.specialS (mLoc 2) (aCons (mCall bytesS (aCons (mList (aCons (mCall lenS (aCons (mLoc 3) aNil)) aNil)) aNil)) (aCons (mSub (mLoc 5) (mConst (.int 0))) (aCons (mSub (mLoc 5) (mConst (.int 1))) aNil)))))
  (sSeq (sExpr (mLM .append (mLoc 3) (aCons (mTup (aCons (mSub (mLoc 5) (mConst (.int 0))) (aCons (mSub (mLoc 5) (mConst (.int 1))) (aCons (mLoc 8) (aCons (mLoc 9) (aCons (mSub (mLoc 13) (mConst (.int 0))) (aCons (mSub (mLoc 13) (mConst (.int 1))) aNil))))))) aNil)))
  (sSeq (sAssign (tName 6) (mList (aCons (mBin .Add (mSub (mLoc 6) (mConst (.int 0))) (mBin .Mult (mList (aCons (mLoc 8) aNil)) (mCall intS (aCons (mCmp .NotEq (mLoc 8) (mConst (.int 0))) aNil)))) (aCons (mBin .Add (mSub (mLoc 6) (mConst (.int 1))) (mBin .Mult (mList (aCons (mLoc 9) aNil)) (mCall intS (aCons (mCmp .NotEq (mLoc 9) (mConst (.int 0))) aNil)))) aNil))))
  sNil)))))
  sNil)
  sNil))
  sNil))
  sNil))
  (sSeq (sExpr (mMeth D.cP "close" D.close_S (mLoc 2) (aCons (mLoc 1) (aCons (mConst (.int 0)) aNil))))
  (sSeq (sRet (mTup (aCons (mLoc 2) (aCons (mLoc 3) aNil))))
  sNil)))))
theorem s_law_written {V : Wd} {D : Ad} (W : Wb V D) (c_PageWriter : GCl V 11 "PageWriter" D.cP D.pageInitS) (m_cP_open : GMe V 12 D.cP "open" D.open_S) (m_cP_close : GMe V 12 D.cP "close" D.close_S) (m_cP_special : GMe V 12 D.cP "special" D.specialS) : SimS V 13 "_law_written" (fdScope (top 23)) nz_law_written (execs (fdBody (top 23))) (m_law_written D) := by
  have hnd := nd_law_written
  obtain ⟨sc, hsc⟩ : ∃ sc, sc = fdScope (top 23) := ⟨_, rfl⟩
  rw [← hsc]
  have hk : sc.kind = .function := by rw [hsc]; rfl
  have l_PageWriter : sc.names.lookup ("PageWriter" : Str) = some .globalImplicit := by rw [hsc]; rfl
  have l_latest : sc.names.lookup ("latest" : Str) = some .local := by rw [hsc]; rfl
  have l_spot : sc.names.lookup ("spot" : Str) = some .local := by rw [hsc]; rfl
  have l_kept : sc.names.lookup ("kept" : Str) = some .local := by rw [hsc]; rfl
  have l_rows : sc.names.lookup ("rows" : Str) = some .local := by rw [hsc]; rfl
  have l_page : sc.names.lookup ("page" : Str) = some .local := by rw [hsc]; rfl
  have l_opened : sc.names.lookup ("opened" : Str) = some .local := by rw [hsc]; rfl
  have l_down : sc.names.lookup ("down" : Str) = some .local := by rw [hsc]; rfl
  have l_aside : sc.names.lookup ("aside" : Str) = some .local := by rw [hsc]; rfl
  have l_what : sc.names.lookup ("what" : Str) = some .local := by rw [hsc]; rfl
  have l_len : sc.names.lookup ("len" : Str) = some .globalImplicit := by rw [hsc]; rfl
  have l_v : sc.names.lookup ("v" : Str) = some .local := by rw [hsc]; rfl
  have l_h : sc.names.lookup ("h" : Str) = some .local := by rw [hsc]; rfl
  have l_begin : sc.names.lookup ("begin" : Str) = some .local := by rw [hsc]; rfl
  have l_near : sc.names.lookup ("near" : Str) = some .local := by rw [hsc]; rfl
  have l_bytes : sc.names.lookup ("bytes" : Str) = some .globalImplicit := by rw [hsc]; rfl
  have l_int : sc.names.lookup ("int" : Str) = some .globalImplicit := by rw [hsc]; rfl
  have l_steps : sc.names.lookup ("steps" : Str) = some .local := by rw [hsc]; rfl
  refine sims_cons ?_ ?_
  · refine pAsg ?_ ?_ ?_ ?_ ?_
    · refine xTup ?_ ?_
      · refine lCons ?_ ?_
        · refine xNew c_PageWriter ?_ hk l_PageWriter ?_ ?_
          · refine lCons ?_ ?_
            · exact sim_dict
            refine lCons ?_ ?_
            · exact sim_int
            exact lNil
          · rfl
          rfl
        refine lCons ?_ ?_
        · refine xList ?_ ?_
          · exact lNil
          rfl
        refine lCons ?_ ?_
        · refine xList ?_ ?_
          · exact lNil
          rfl
        refine lCons ?_ ?_
        · refine xList ?_ ?_
          · refine lCons ?_ ?_
            · exact sim_int
            refine lCons ?_ ?_
            · exact sim_int
            exact lNil
          rfl
        refine lCons ?_ ?_
        · refine xList ?_ ?_
          · refine lCons ?_ ?_
            · refine xList ?_ ?_
              · exact lNil
              rfl
            refine lCons ?_ ?_
            · refine xList ?_ ?_
              · exact lNil
              rfl
            exact lNil
          rfl
        exact lNil
      rfl
    · refine simtg_tup ?_
      refine gsCons ?_ ?_ ?_
      · refine gName 2 ?_ hnd hk l_page <;> rfl
      · rfl
      refine gsCons ?_ ?_ ?_
      · refine gName 3 ?_ hnd hk l_rows <;> rfl
      · rfl
      refine gsCons ?_ ?_ ?_
      · refine gName 4 ?_ hnd hk l_kept <;> rfl
      · rfl
      refine gsCons ?_ ?_ ?_
      · refine gName 5 ?_ hnd hk l_spot <;> rfl
      · rfl
      refine gsCons ?_ ?_ ?_
      · refine gName 6 ?_ hnd hk l_latest <;> rfl
      · rfl
      exact .nil
    · rfl
    · rfl
    rfl
  refine sims_cons ?_ ?_
  · refine pAsg ?_ ?_ ?_ ?_ ?_
    · refine xMe ?_ m_cP_open ?_ hk ?_ ?_ ?_ ?_
      · refine xL 2 ?_ hk l_page ?_ <;> rfl
      · refine lCons ?_ ?_
        · exact sim_int
        exact lNil
      · rfl
      · rfl
      · decide
      rfl
    · refine gName 1 ?_ hnd hk l_opened <;> rfl
    · rfl
    · rfl
    rfl
  refine sims_cons ?_ ?_
  · refine pFor ?_ ?_ ?_ ?_
    · refine sim_bin ?_ ?_
      · refine xL 0 ?_ hk l_steps ?_ <;> rfl
      refine sim_bin ?_ ?_
      · refine xList ?_ ?_
        · refine lCons ?_ ?_
          · refine xTup ?_ ?_
            · refine lCons ?_ ?_
              · exact sim_int
              refine lCons ?_ ?_
              · exact sim_int
              refine lCons ?_ ?_
              · exact sim_int
              exact lNil
            rfl
          exact lNil
        rfl
      exact sim_int
    · refine simtg_tup ?_
      refine gsCons ?_ ?_ ?_
      · refine gName 7 ?_ hnd hk l_what <;> rfl
      · rfl
      refine gsCons ?_ ?_ ?_
      · refine gName 8 ?_ hnd hk l_aside <;> rfl
      · rfl
      refine gsCons ?_ ?_ ?_
      · refine gName 9 ?_ hnd hk l_down <;> rfl
      · rfl
      exact .nil
    · refine sims_cons ?_ ?_
      · refine sims_if ?_ ?_ ?_
        · refine simc_and ?_ ?_
          · refine tCmp_ ?_ ?_ ?_
            · refine xL 7 ?_ hk l_what ?_ <;> rfl
            · exact sim_int
            rfl
          refine simc_and ?_ ?_
          · refine tCmp_ ?_ ?_ ?_
            · refine xBi bok_len W.b_len ?_ hk l_len ?_ ?_
              · refine lCons ?_ ?_
                · refine xL 4 ?_ hk l_kept ?_ <;> rfl
                exact lNil
              · rfl
              rfl
            · exact sim_int
            rfl
          exact simc_and_nil
        · refine sims_cons ?_ ?_
          · refine pExpr ?_ hk ?_
            · refine xLM (k := .append) ?_ ?_ ?_ ?_ ?_ ?_ ?_
              · refine xL 4 ?_ hk l_kept ?_ <;> rfl
              · refine lCons ?_ ?_
                · refine xTup ?_ ?_
                  · refine lCons ?_ ?_
                    · refine xMe ?_ m_cP_open ?_ hk ?_ ?_ ?_ ?_
                      · refine xL 2 ?_ hk l_page ?_ <;> rfl
                      · refine lCons ?_ ?_
                        · refine sim_bin ?_ ?_
                          · refine xBi bok_len W.b_len ?_ hk l_len ?_ ?_
                            · refine lCons ?_ ?_
                              · refine xL 4 ?_ hk l_kept ?_ <;> rfl
                              exact lNil
                            · rfl
                            rfl
                          exact sim_int
                        exact lNil
                      · rfl
                      · rfl
                      · decide
                      rfl
                    refine lCons ?_ ?_
                    · refine xAttr ?_ W.a_cP_h ?_
                      · refine xL 2 ?_ hk l_page ?_ <;> rfl
                      rfl
                    refine lCons ?_ ?_
                    · refine xAttr ?_ W.a_cP_v ?_
                      · refine xL 2 ?_ hk l_page ?_ <;> rfl
                      rfl
                    exact lNil
                  rfl
                exact lNil
              · rfl
              · rfl
              · rfl
              · decide
              rfl
            rfl
          refine sims_cons ?_ ?_
          · refine pAsg ?_ ?_ ?_ ?_ ?_
            · refine xList ?_ ?_
              · refine lCons ?_ ?_
                · refine xList ?_ ?_
                  · exact lNil
                  rfl
                refine lCons ?_ ?_
                · refine xList ?_ ?_
                  · exact lNil
                  rfl
                exact lNil
              rfl
            · refine gName 6 ?_ hnd hk l_latest <;> rfl
            · rfl
            · rfl
            rfl
          exact sims_nil
        refine sims_cons ?_ ?_
        · refine sims_if ?_ ?_ ?_
          · refine simc_and ?_ ?_
            · refine tCmp_ ?_ ?_ ?_
              · refine xL 7 ?_ hk l_what ?_ <;> rfl
              · exact sim_int
              rfl
            refine simc_and ?_ ?_
            · refine tCmp_ ?_ ?_ ?_
              · refine xL 4 ?_ hk l_kept ?_ <;> rfl
              · refine xList ?_ ?_
                · exact lNil
                rfl
              rfl
            exact simc_and_nil
          · refine sims_cons ?_ ?_
            · refine pAsg ?_ ?_ ?_ ?_ ?_
              · refine xLM (k := .pop) ?_ ?_ ?_ ?_ ?_ ?_ ?_
                · refine xL 4 ?_ hk l_kept ?_ <;> rfl
                · exact lNil
                · rfl
                · rfl
                · rfl
                · decide
                rfl
              · refine simtg_tup ?_
                refine gsCons ?_ ?_ ?_
                · refine gName 10 ?_ hnd hk l_begin <;> rfl
                · rfl
                refine gsCons ?_ ?_ ?_
                · refine gName 11 ?_ hnd hk l_h <;> rfl
                · rfl
                refine gsCons ?_ ?_ ?_
                · refine gName 12 ?_ hnd hk l_v <;> rfl
                · rfl
                exact .nil
              · rfl
              · rfl
              rfl
            refine sims_cons ?_ ?_
            · refine pExpr ?_ hk ?_
              · refine xMe ?_ m_cP_close ?_ hk ?_ ?_ ?_ ?_
                · refine xL 2 ?_ hk l_page ?_ <;> rfl
                · refine lCons ?_ ?_
                  · refine xL 10 ?_ hk l_begin ?_ <;> rfl
                  refine lCons ?_ ?_
                  · refine sim_bin ?_ ?_
                    · refine xBi bok_len W.b_len ?_ hk l_len ?_ ?_
                      · refine lCons ?_ ?_
                        · refine xL 4 ?_ hk l_kept ?_ <;> rfl
                        exact lNil
                      · rfl
                      rfl
                    exact sim_int
                  exact lNil
                · rfl
                · rfl
                · decide
                rfl
              rfl
            refine sims_cons ?_ ?_
            · refine sims_assign ?_ ?_ ?_ ?_ (asg_of rfl)
              · refine xTup ?_ ?_
                · refine lCons ?_ ?_
                  · refine xL 11 ?_ hk l_h ?_ <;> rfl
                  refine lCons ?_ ?_
                  · refine xL 12 ?_ hk l_v ?_ <;> rfl
                  exact lNil
                rfl
              · refine simtg_tup ?_
                refine gsCons ?_ ?_ ?_
                · refine simtg_attr ?_ W.s_cP_h
                  refine xL 2 ?_ hk l_page ?_ <;> rfl
                · rfl
                refine gsCons ?_ ?_ ?_
                · refine simtg_attr ?_ W.s_cP_v
                  refine xL 2 ?_ hk l_page ?_ <;> rfl
                · rfl
                exact .nil
              · exact (fun _ _ _ => swaps_of rfl _)
              exact (fun _ _ _ => by rw [hsc]; rfl)
            refine sims_cons ?_ ?_
            · refine pSwap (names := ["spot", "latest"]) ?_ ?_ ?_ ?_ ?_ hnd hk ?_
              · refine xTup ?_ ?_
                · refine lCons ?_ ?_
                  · refine xList ?_ ?_
                    · refine lCons ?_ ?_
                      · refine xL 11 ?_ hk l_h ?_ <;> rfl
                      refine lCons ?_ ?_
                      · refine xL 12 ?_ hk l_v ?_ <;> rfl
                      exact lNil
                    rfl
                  refine lCons ?_ ?_
                  · refine xList ?_ ?_
                    · refine lCons ?_ ?_
                      · refine xList ?_ ?_
                        · exact lNil
                        rfl
                      refine lCons ?_ ?_
                      · refine xList ?_ ?_
                        · exact lNil
                        rfl
                      exact lNil
                    rfl
                  exact lNil
                rfl
              · rfl
              · exact (fun _ _ _ => by rw [hsc]; rfl)
              · rfl
              · decide
              rw [hsc]; rfl
            exact sims_nil
          refine sims_cons ?_ ?_
          · refine sims_if ?_ ?_ ?_
            · refine tCmp_ ?_ ?_ ?_
              · refine xL 7 ?_ hk l_what ?_ <;> rfl
              · exact sim_int
              rfl
            · refine sims_cons ?_ ?_
              · refine pAsg ?_ ?_ ?_ ?_ ?_
                · refine xList ?_ ?_
                  · refine lCons ?_ ?_
                    · refine sim_bin ?_ ?_
                      · refine sim_sub ?_ ?_
                        · refine xL 5 ?_ hk l_spot ?_ <;> rfl
                        exact sim_int
                      refine xL 8 ?_ hk l_aside ?_ <;> rfl
                    refine lCons ?_ ?_
                    · refine sim_bin ?_ ?_
                      · refine sim_sub ?_ ?_
                        · refine xL 5 ?_ hk l_spot ?_ <;> rfl
                        exact sim_int
                      refine xL 9 ?_ hk l_down ?_ <;> rfl
                    exact lNil
                  rfl
                · refine gName 5 ?_ hnd hk l_spot <;> rfl
                · rfl
                · rfl
                rfl
              refine sims_cons ?_ ?_
              · refine pAsg ?_ ?_ ?_ ?_ ?_
                · refine xList ?_ ?_
                  · refine lCons ?_ ?_
                    · refine xCmp ?_ ?_ ?_
                      · refine xL 8 ?_ hk l_aside ?_ <;> rfl
                      · refine sim_slice ?_ ?_ ?_
                        · refine sim_sub ?_ ?_
                          · refine xL 6 ?_ hk l_latest ?_ <;> rfl
                          exact sim_int
                        · refine simo_some ?_
                          refine sim_un ?_
                          exact sim_int
                        exact simo_none
                      rfl
                    refine lCons ?_ ?_
                    · refine xCmp ?_ ?_ ?_
                      · refine xL 9 ?_ hk l_down ?_ <;> rfl
                      · refine sim_slice ?_ ?_ ?_
                        · refine sim_sub ?_ ?_
                          · refine xL 6 ?_ hk l_latest ?_ <;> rfl
                          exact sim_int
                        · refine simo_some ?_
                          refine sim_un ?_
                          exact sim_int
                        exact simo_none
                      rfl
                    exact lNil
                  rfl
                · refine gName 13 ?_ hnd hk l_near <;> rfl
                · rfl
                · rfl
                rfl
              refine sims_cons ?_ ?_
              · refine pExpr ?_ hk ?_
                · refine xMe ?_ m_cP_special ?_ hk ?_ ?_ ?_ ?_
                  · refine xL 2 ?_ hk l_page ?_ <;> rfl
                  · refine lCons ?_ ?_
                    · refine xBi bok_bytes W.b_bytes ?_ hk l_bytes ?_ ?_
                      · refine lCons ?_ ?_
                        · refine xList ?_ ?_
                          · refine lCons ?_ ?_
                            · refine xBi bok_len W.b_len ?_ hk l_len ?_ ?_
                              · refine lCons ?_ ?_
                                · refine xL 3 ?_ hk l_rows ?_ <;> rfl
                                exact lNil
                              · rfl
                              rfl
                            exact lNil
                          rfl
                        exact lNil
                      · rfl
                      rfl
                    refine lCons ?_ ?_
                    · refine sim_sub ?_ ?_
                      · refine xL 5 ?_ hk l_spot ?_ <;> rfl
                      exact sim_int
                    refine lCons ?_ ?_
                    · refine sim_sub ?_ ?_
                      · refine xL 5 ?_ hk l_spot ?_ <;> rfl
                      exact sim_int
                    exact lNil
                  · rfl
                  · rfl
                  · decide
                  rfl
                rfl
              refine sims_cons ?_ ?_
              · refine pExpr ?_ hk ?_
                · refine xLM (k := .append) ?_ ?_ ?_ ?_ ?_ ?_ ?_
                  · refine xL 3 ?_ hk l_rows ?_ <;> rfl
                  · refine lCons ?_ ?_
                    · refine xTup ?_ ?_
                      · refine lCons ?_ ?_
                        · refine sim_sub ?_ ?_
                          · refine xL 5 ?_ hk l_spot ?_ <;> rfl
                          exact sim_int
                        refine lCons ?_ ?_
                        · refine sim_sub ?_ ?_
                          · refine xL 5 ?_ hk l_spot ?_ <;> rfl
                          exact sim_int
                        refine lCons ?_ ?_
                        · refine xL 8 ?_ hk l_aside ?_ <;> rfl
                        refine lCons ?_ ?_
                        · refine xL 9 ?_ hk l_down ?_ <;> rfl
                        refine lCons ?_ ?_
                        · refine sim_sub ?_ ?_
                          · refine xL 13 ?_ hk l_near ?_ <;> rfl
                          exact sim_int
                        refine lCons ?_ ?_
                        · refine sim_sub ?_ ?_
                          · refine xL 13 ?_ hk l_near ?_ <;> rfl
                          exact sim_int
                        exact lNil
                      rfl
                    exact lNil
                  · rfl
                  · rfl
                  · rfl
                  · decide
                  rfl
                rfl
              refine sims_cons ?_ ?_
              · refine pAsg ?_ ?_ ?_ ?_ ?_
                · refine xList ?_ ?_
                  · refine lCons ?_ ?_
                    · refine sim_bin ?_ ?_
                      · refine sim_sub ?_ ?_
                        · refine xL 6 ?_ hk l_latest ?_ <;> rfl
                        exact sim_int
                      refine sim_bin ?_ ?_
                      · refine xList ?_ ?_
                        · refine lCons ?_ ?_
                          · refine xL 8 ?_ hk l_aside ?_ <;> rfl
                          exact lNil
                        rfl
                      refine xBi bok_int W.b_int ?_ hk l_int ?_ ?_
                      · refine lCons ?_ ?_
                        · refine xCmp ?_ ?_ ?_
                          · refine xL 8 ?_ hk l_aside ?_ <;> rfl
                          · exact sim_int
                          rfl
                        exact lNil
                      · rfl
                      rfl
                    refine lCons ?_ ?_
                    · refine sim_bin ?_ ?_
                      · refine sim_sub ?_ ?_
                        · refine xL 6 ?_ hk l_latest ?_ <;> rfl
                        exact sim_int
                      refine sim_bin ?_ ?_
                      · refine xList ?_ ?_
                        · refine lCons ?_ ?_
                          · refine xL 9 ?_ hk l_down ?_ <;> rfl
                          exact lNil
                        rfl
                      refine xBi bok_int W.b_int ?_ hk l_int ?_ ?_
                      · refine lCons ?_ ?_
                        · refine xCmp ?_ ?_ ?_
                          · refine xL 9 ?_ hk l_down ?_ <;> rfl
                          · exact sim_int
                          rfl
                        exact lNil
                      · rfl
                      rfl
                    exact lNil
                  rfl
                · refine gName 6 ?_ hnd hk l_latest <;> rfl
                · rfl
                · rfl
                rfl
              exact sims_nil
            exact sims_nil
          exact sims_nil
        exact sims_nil
      exact sims_nil
    rfl
  refine sims_cons ?_ ?_
  · refine pExpr ?_ hk ?_
    · refine xMe ?_ m_cP_close ?_ hk ?_ ?_ ?_ ?_
      · refine xL 2 ?_ hk l_page ?_ <;> rfl
      · refine lCons ?_ ?_
        · refine xL 1 ?_ hk l_opened ?_ <;> rfl
        refine lCons ?_ ?_
        · exact sim_int
        exact lNil
      · rfl
      · rfl
      · decide
      rfl
    rfl
  refine sims_cons ?_ ?_
  · refine sims_ret ?_
    refine xTup ?_ ?_
    · refine lCons ?_ ?_
      · refine xL 2 ?_ hk l_page ?_ <;> rfl
      refine lCons ?_ ?_
      · refine xL 3 ?_ hk l_rows ?_ <;> rfl
      exact lNil
    rfl
  exact sims_nil
noncomputable def nz_law_signed : List Str := ["octets", "found", "octet"]
theorem nd_law_signed : nz_law_signed.Nodup := by decide
noncomputable def m_law_signed (D : Ad) : MS := (sSeq (sAssign (tName 1) (mConst (.int 0)))
  (sSeq (sFor (tName 2) (mLoc 0)
  (sSeq (sAssign (tName 1) (mBin .Add (mBin .Mult (mLoc 1) (mConst (.int 256))) (mLoc 2)))
  sNil))
  (sSeq (sRet (mBin .Sub (mLoc 1) (mIf (tCmp .Gt (mSub (mLoc 0) (mConst (.int 0))) (mConst (.int 127))) (mBin .Pow (mConst (.int 256)) (mCall lenS (aCons (mLoc 0) aNil))) (mConst (.int 0)))))
  sNil)))
theorem s_law_signed {V : Wd} {D : Ad} (W : Wb V D)  : SimS V 8 "_law_signed" (fdScope (top 24)) nz_law_signed (execs (fdBody (top 24))) (m_law_signed D) := by
  have hnd := nd_law_signed
  obtain ⟨sc, hsc⟩ : ∃ sc, sc = fdScope (top 24) := ⟨_, rfl⟩
  rw [← hsc]
  have hk : sc.kind = .function := by rw [hsc]; rfl
  have l_found : sc.names.lookup ("found" : Str) = some .local := by rw [hsc]; rfl
  have l_octet : sc.names.lookup ("octet" : Str) = some .local := by rw [hsc]; rfl
  have l_octets : sc.names.lookup ("octets" : Str) = some .local := by rw [hsc]; rfl
  have l_len : sc.names.lookup ("len" : Str) = some .globalImplicit := by rw [hsc]; rfl
  refine sims_cons ?_ ?_
  · refine pAsg ?_ ?_ ?_ ?_ ?_
    · exact sim_int
    · refine gName 1 ?_ hnd hk l_found <;> rfl
    · rfl
    · rfl
    rfl
  refine sims_cons ?_ ?_
  · refine pFor ?_ ?_ ?_ ?_
    · refine xL 0 ?_ hk l_octets ?_ <;> rfl
    · refine gName 2 ?_ hnd hk l_octet <;> rfl
    · refine sims_cons ?_ ?_
      · refine pAsg ?_ ?_ ?_ ?_ ?_
        · refine sim_bin ?_ ?_
          · refine sim_bin ?_ ?_
            · refine xL 1 ?_ hk l_found ?_ <;> rfl
            exact sim_int
          refine xL 2 ?_ hk l_octet ?_ <;> rfl
        · refine gName 1 ?_ hnd hk l_found <;> rfl
        · rfl
        · rfl
        rfl
      exact sims_nil
    rfl
  refine sims_cons ?_ ?_
  · refine sims_ret ?_
    refine sim_bin ?_ ?_
    · refine xL 1 ?_ hk l_found ?_ <;> rfl
    refine sim_if ?_ ?_ ?_
    · refine tCmp_ ?_ ?_ ?_
      · refine sim_sub ?_ ?_
        · refine xL 0 ?_ hk l_octets ?_ <;> rfl
        exact sim_int
      · exact sim_int
      rfl
    · refine sim_bin ?_ ?_
      · exact sim_int
      refine xBi bok_len W.b_len ?_ hk l_len ?_ ?_
      · refine lCons ?_ ?_
        · refine xL 0 ?_ hk l_octets ?_ <;> rfl
        exact lNil
      · rfl
      rfl
    exact sim_int
  exact sims_nil
noncomputable def nz_law_move : List Str := ["opcode", "octets", "state", "register", "size", "axis", "sort"]
theorem nd_law_move : nz_law_move.Nodup := by decide
noncomputable def m_law_move (D : Ad) : MS := (sSeq (sSwap [5, 6] (mTup (aCons (mBin .FloorDiv (mBin .Sub (mLoc 0) (mConst (.int 143))) (mConst (.int 14))) (aCons (mBin .Mod (mBin .Sub (mLoc 0) (mConst (.int 143))) (mConst (.int 14))) aNil))))
  (sSeq (sAssign (tName 3) (mBin .Add (mBin .Add (mConst (.int 2)) (mBin .Mult (mConst (.int 2)) (mLoc 5))) (mCall intS (aCons (mCmp .Gt (mLoc 6) (mConst (.int 8))) aNil))))
  (sSeq (sAssign (tName 4) (mIf (tCmp .Eq (mLoc 1) (mList aNil)) (mSub (mLoc 2) (mLoc 3)) (mCall D.law_signedS (aCons (mLoc 1) aNil))))
  (sSeq (sIf (tCmp .Gt (mLoc 6) (mConst (.int 3)))
  (sSeq (sAssign (tSub (mLoc 2) (mLoc 3)) (mLoc 4))
  sNil)
  sNil)
  (sSeq (sAssign (tSub (mLoc 2) (mLoc 5)) (mBin .Add (mSub (mLoc 2) (mLoc 5)) (mLoc 4)))
  sNil)))))
theorem s_law_move {V : Wd} {D : Ad} (W : Wb V D) (f__law_signed : GFn V 8 "_law_signed" D.law_signedS) : SimS V 9 "_law_move" (fdScope (top 25)) nz_law_move (execs (fdBody (top 25))) (m_law_move D) := by
  have hnd := nd_law_move
  obtain ⟨sc, hsc⟩ : ∃ sc, sc = fdScope (top 25) := ⟨_, rfl⟩
  rw [← hsc]
  have hk : sc.kind = .function := by rw [hsc]; rfl
  have l_opcode : sc.names.lookup ("opcode" : Str) = some .local := by rw [hsc]; rfl
  have l_axis : sc.names.lookup ("axis" : Str) = some .local := by rw [hsc]; rfl
  have l_sort : sc.names.lookup ("sort" : Str) = some .local := by rw [hsc]; rfl
  have l_int : sc.names.lookup ("int" : Str) = some .globalImplicit := by rw [hsc]; rfl
  have l_register : sc.names.lookup ("register" : Str) = some .local := by rw [hsc]; rfl
  have l_octets : sc.names.lookup ("octets" : Str) = some .local := by rw [hsc]; rfl
  have l_state : sc.names.lookup ("state" : Str) = some .local := by rw [hsc]; rfl
  have l__law_signed : sc.names.lookup ("_law_signed" : Str) = some .globalImplicit := by rw [hsc]; rfl
  have l_size : sc.names.lookup ("size" : Str) = some .local := by rw [hsc]; rfl
  refine sims_cons ?_ ?_
  · refine pSwap (names := ["axis", "sort"]) ?_ ?_ ?_ ?_ ?_ hnd hk ?_
    · refine xTup ?_ ?_
      · refine lCons ?_ ?_
        · refine sim_bin ?_ ?_
          · refine sim_bin ?_ ?_
            · refine xL 0 ?_ hk l_opcode ?_ <;> rfl
            exact sim_int
          exact sim_int
        refine lCons ?_ ?_
        · refine sim_bin ?_ ?_
          · refine sim_bin ?_ ?_
            · refine xL 0 ?_ hk l_opcode ?_ <;> rfl
            exact sim_int
          exact sim_int
        exact lNil
      rfl
    · rfl
    · exact (fun _ _ _ => by rw [hsc]; rfl)
    · rfl
    · decide
    rw [hsc]; rfl
  refine sims_cons ?_ ?_
  · refine pAsg ?_ ?_ ?_ ?_ ?_
    · refine sim_bin ?_ ?_
      · refine sim_bin ?_ ?_
        · exact sim_int
        refine sim_bin ?_ ?_
        · exact sim_int
        refine xL 5 ?_ hk l_axis ?_ <;> rfl
      refine xBi bok_int W.b_int ?_ hk l_int ?_ ?_
      · refine lCons ?_ ?_
        · refine xCmp ?_ ?_ ?_
          · refine xL 6 ?_ hk l_sort ?_ <;> rfl
          · exact sim_int
          rfl
        exact lNil
      · rfl
      rfl
    · refine gName 3 ?_ hnd hk l_register <;> rfl
    · rfl
    · rfl
    rfl
  refine sims_cons ?_ ?_
  · refine pAsg ?_ ?_ ?_ ?_ ?_
    · refine sim_if ?_ ?_ ?_
      · refine tCmp_ ?_ ?_ ?_
        · refine xL 1 ?_ hk l_octets ?_ <;> rfl
        · refine xList ?_ ?_
          · exact lNil
          rfl
        rfl
      · refine sim_sub ?_ ?_
        · refine xL 2 ?_ hk l_state ?_ <;> rfl
        refine xL 3 ?_ hk l_register ?_ <;> rfl
      refine xCall f__law_signed ?_ hk l__law_signed ?_ ?_
      · refine lCons ?_ ?_
        · refine xL 1 ?_ hk l_octets ?_ <;> rfl
        exact lNil
      · rfl
      rfl
    · refine gName 4 ?_ hnd hk l_size <;> rfl
    · rfl
    · rfl
    rfl
  refine sims_cons ?_ ?_
  · refine sims_if ?_ ?_ ?_
    · refine tCmp_ ?_ ?_ ?_
      · refine xL 6 ?_ hk l_sort ?_ <;> rfl
      · exact sim_int
      rfl
    · refine sims_cons ?_ ?_
      · refine pAsg ?_ ?_ ?_ ?_ ?_
        · refine xL 4 ?_ hk l_size ?_ <;> rfl
        · refine simtg_sub ?_ ?_
          · refine xL 2 ?_ hk l_state ?_ <;> rfl
          refine xL 3 ?_ hk l_register ?_ <;> rfl
        · rfl
        · rfl
        rfl
      exact sims_nil
    exact sims_nil
  refine sims_cons ?_ ?_
  · refine pAsg ?_ ?_ ?_ ?_ ?_
    · refine sim_bin ?_ ?_
      · refine sim_sub ?_ ?_
        · refine xL 2 ?_ hk l_state ?_ <;> rfl
        refine xL 5 ?_ hk l_axis ?_ <;> rfl
      refine xL 4 ?_ hk l_size ?_ <;> rfl
    · refine simtg_sub ?_ ?_
      · refine xL 2 ?_ hk l_state ?_ <;> rfl
      refine xL 5 ?_ hk l_axis ?_ <;> rfl
    · rfl
    · rfl
    rfl
  exact sims_nil
noncomputable def nz_law_run : List Str := ["octets", "state", "kept", "rows", "took", "deepest", "place", "last", "room", "opcode", "begin"]
theorem nd_law_run : nz_law_run.Nodup := by decide
noncomputable def m_law_run (D : Ad) : MS := (sSeq (sAssign (tTup [(tName 1), (tName 2), (tName 3), (tName 4), (tName 5), (tName 6), (tName 7)]) (mTup (aCons (mBin .Mult (mList (aCons (mConst (.int 0)) aNil)) (mConst (.int 6))) (aCons (mList aNil) (aCons (mList aNil) (aCons (mList (aCons (mConst (.int 0)) (aCons (mConst (.int 0)) aNil))) (aCons (mConst (.int 0)) (aCons (mConst (.int 0)) (aCons (mConst (.int 0)) aNil)))))))))
  (sSeq (sWhile (tCmp .Lt (mLoc 6) (mCall lenS (aCons (mLoc 0) aNil)))
  (sSeq (sSwap [9, 10] (mTup (aCons (mSub (mLoc 0) (mLoc 6)) (aCons (mBin .Add (mLoc 6) (mConst (.int 1))) aNil))))
  (sSeq (sAssign (tName 8) (mConst (.int 0)))
  (sSeq (sIf (tCmp .Eq (mLoc 9) (mConst (.int 141)))
  (sSeq (sExpr (mLM .append (mLoc 2) (aCons (mCall listS (aCons (mLoc 1) aNil)) aNil)))
  (sSeq (sAssign (tName 5) (mCall maxS (aCons (mLoc 5) (aCons (mCall lenS (aCons (mLoc 2) aNil)) aNil))))
  sNil))
  (sSeq (sIf (tAnd (tCmp .Eq (mLoc 9) (mConst (.int 142))) (tAnd (tCmp .NotEq (mLoc 2) (mList aNil)) (tAnd (tCmp .NotEq (mLoc 7) (mConst (.int 141))) tTrue)))
  (sSeq (sAssign (tName 1) (mLM .pop (mLoc 2) aNil))
  sNil)
  (sSeq (sIf (tCmp .Eq (mLoc 9) (mConst (.int 239)))
  (sSeq (sAssign (tName 8) (mConst (.int 2)))
  (sSeq (sExpr (mLM .append (mLoc 3) (aCons (mTup (aCons (mSub (mLoc 0) (mBin .Add (mLoc 10) (mConst (.int 1)))) (aCons (mSub (mLoc 1) (mConst (.int 0))) (aCons (mSub (mLoc 1) (mConst (.int 1))) (aCons (mSub (mLoc 4) (mConst (.int 0))) (aCons (mSub (mLoc 4) (mConst (.int 1))) aNil)))))) aNil)))
  (sSeq (sAssign (tName 4) (mList (aCons (mConst (.int 0)) (aCons (mConst (.int 0)) aNil))))
  sNil)))
  (sSeq (sIf (tChain .LtE .Lt (mConst (.int 143)) (mLoc 9) (mConst (.int 171)))
  (sSeq (sAssign (tName 8) (mSub (mTup (aCons (mConst (.int 1)) (aCons (mConst (.int 2)) (aCons (mConst (.int 3)) (aCons (mConst (.int 4)) (aCons (mConst (.int 0)) (aCons (mConst (.int 1)) (aCons (mConst (.int 2)) (aCons (mConst (.int 3)) (aCons (mConst (.int 4)) (aCons (mConst (.int 0)) (aCons (mConst (.int 1)) (aCons (mConst (.int 2)) (aCons (mConst (.int 3)) (aCons (mConst (.int 4)) aNil))))))))))))))) (mBin .Mod (mBin .Sub (mLoc 9) (mConst (.int 143))) (mConst (.int 14)))))
  (sSeq (sExpr (mCall D.law_moveS (aCons (mLoc 9) (aCons (mSlice (mLoc 0) (mLoc 10) (mBin .Add (mLoc 10) (mLoc 8))) (aCons (mLoc 1) aNil)))))
  (sSeq (sAugSub (mLoc 4) (mBin .FloorDiv (mBin .Sub (mLoc 9) (mConst (.int 143))) (mConst (.int 14))) (mBin .Add (mConst (.int 1)) (mLoc 8)))
  sNil)))
  (sSeq (sRet (mConst .none))
  sNil))
  sNil))
  sNil))
  sNil))
  (sSeq (sSwap [6, 7] (mTup (aCons (mBin .Add (mLoc 10) (mLoc 8)) (aCons (mLoc 9) aNil))))
  sNil)))))
  (sSeq (sRet (mIf (tCmp .Eq (mLoc 2) (mList aNil)) (mTup (aCons (mLoc 3) (aCons (mLoc 5) aNil))) (mConst .none)))
  sNil)))
theorem s_law_run {V : Wd} {D : Ad} (W : Wb V D) (f__law_move : GFn V 9 "_law_move" D.law_moveS) : SimS V 10 "_law_run" (fdScope (top 26)) nz_law_run (execs (fdBody (top 26))) (m_law_run D) := by
  have hnd := nd_law_run
  obtain ⟨sc, hsc⟩ : ∃ sc, sc = fdScope (top 26) := ⟨_, rfl⟩
  rw [← hsc]
  have hk : sc.kind = .function := by rw [hsc]; rfl
  have l_last : sc.names.lookup ("last" : Str) = some .local := by rw [hsc]; rfl
  have l_place : sc.names.lookup ("place" : Str) = some .local := by rw [hsc]; rfl
  have l_deepest : sc.names.lookup ("deepest" : Str) = some .local := by rw [hsc]; rfl
  have l_took : sc.names.lookup ("took" : Str) = some .local := by rw [hsc]; rfl
  have l_rows : sc.names.lookup ("rows" : Str) = some .local := by rw [hsc]; rfl
  have l_kept : sc.names.lookup ("kept" : Str) = some .local := by rw [hsc]; rfl
  have l_state : sc.names.lookup ("state" : Str) = some .local := by rw [hsc]; rfl
  have l_octets : sc.names.lookup ("octets" : Str) = some .local := by rw [hsc]; rfl
  have l_len : sc.names.lookup ("len" : Str) = some .globalImplicit := by rw [hsc]; rfl
  have l_room : sc.names.lookup ("room" : Str) = some .local := by rw [hsc]; rfl
  have l_opcode : sc.names.lookup ("opcode" : Str) = some .local := by rw [hsc]; rfl
  have l_list : sc.names.lookup ("list" : Str) = some .globalImplicit := by rw [hsc]; rfl
  have l_max : sc.names.lookup ("max" : Str) = some .globalImplicit := by rw [hsc]; rfl
  have l_begin : sc.names.lookup ("begin" : Str) = some .local := by rw [hsc]; rfl
  have l__law_move : sc.names.lookup ("_law_move" : Str) = some .globalImplicit := by rw [hsc]; rfl
  refine sims_cons ?_ ?_
  · refine pAsg ?_ ?_ ?_ ?_ ?_
    · refine xTup ?_ ?_
      · refine lCons ?_ ?_
        · refine sim_bin ?_ ?_
          · refine xList ?_ ?_
            · refine lCons ?_ ?_
              · exact sim_int
              exact lNil
            rfl
          exact sim_int
        refine lCons ?_ ?_
        · refine xList ?_ ?_
          · exact lNil
          rfl
        refine lCons ?_ ?_
        · refine xList ?_ ?_
          · exact lNil
          rfl
        refine lCons ?_ ?_
        · refine xList ?_ ?_
          · refine lCons ?_ ?_
            · exact sim_int
            refine lCons ?_ ?_
            · exact sim_int
            exact lNil
          rfl
        refine lCons ?_ ?_
        · exact sim_int
        refine lCons ?_ ?_
        · exact sim_int
        refine lCons ?_ ?_
        · exact sim_int
        exact lNil
      rfl
    · refine simtg_tup ?_
      refine gsCons ?_ ?_ ?_
      · refine gName 1 ?_ hnd hk l_state <;> rfl
      · rfl
      refine gsCons ?_ ?_ ?_
      · refine gName 2 ?_ hnd hk l_kept <;> rfl
      · rfl
      refine gsCons ?_ ?_ ?_
      · refine gName 3 ?_ hnd hk l_rows <;> rfl
      · rfl
      refine gsCons ?_ ?_ ?_
      · refine gName 4 ?_ hnd hk l_took <;> rfl
      · rfl
      refine gsCons ?_ ?_ ?_
      · refine gName 5 ?_ hnd hk l_deepest <;> rfl
      · rfl
      refine gsCons ?_ ?_ ?_
      · refine gName 6 ?_ hnd hk l_place <;> rfl
      · rfl
      refine gsCons ?_ ?_ ?_
      · refine gName 7 ?_ hnd hk l_last <;> rfl
      · rfl
      exact .nil
    · rfl
    · rfl
    rfl
  refine sims_cons ?_ ?_
  · refine sims_while ?_ ?_
    · refine tCmp_ ?_ ?_ ?_
      · refine xL 6 ?_ hk l_place ?_ <;> rfl
      · refine xBi bok_len W.b_len ?_ hk l_len ?_ ?_
        · refine lCons ?_ ?_
          · refine xL 0 ?_ hk l_octets ?_ <;> rfl
          exact lNil
        · rfl
        rfl
      rfl
    refine sims_cons ?_ ?_
    · refine pSwap (names := ["opcode", "begin"]) ?_ ?_ ?_ ?_ ?_ hnd hk ?_
      · refine xTup ?_ ?_
        · refine lCons ?_ ?_
          · refine sim_sub ?_ ?_
            · refine xL 0 ?_ hk l_octets ?_ <;> rfl
            refine xL 6 ?_ hk l_place ?_ <;> rfl
          refine lCons ?_ ?_
          · refine sim_bin ?_ ?_
            · refine xL 6 ?_ hk l_place ?_ <;> rfl
            exact sim_int
          exact lNil
        rfl
      · rfl
      · exact (fun _ _ _ => by rw [hsc]; rfl)
      · rfl
      · decide
      rw [hsc]; rfl
    refine sims_cons ?_ ?_
    · refine pAsg ?_ ?_ ?_ ?_ ?_
      · exact sim_int
      · refine gName 8 ?_ hnd hk l_room <;> rfl
      · rfl
      · rfl
      rfl
    refine sims_cons ?_ ?_
    · refine sims_if ?_ ?_ ?_
      · refine tCmp_ ?_ ?_ ?_
        · refine xL 9 ?_ hk l_opcode ?_ <;> rfl
        · exact sim_int
        rfl
      · refine sims_cons ?_ ?_
        · refine pExpr ?_ hk ?_
          · refine xLM (k := .append) ?_ ?_ ?_ ?_ ?_ ?_ ?_
            · refine xL 2 ?_ hk l_kept ?_ <;> rfl
            · refine lCons ?_ ?_
              · refine xBi bok_list W.b_list ?_ hk l_list ?_ ?_
                · refine lCons ?_ ?_
                  · refine xL 1 ?_ hk l_state ?_ <;> rfl
                  exact lNil
                · rfl
                rfl
              exact lNil
            · rfl
            · rfl
            · rfl
            · decide
            rfl
          rfl
        refine sims_cons ?_ ?_
        · refine pAsg ?_ ?_ ?_ ?_ ?_
          · refine xBi bok_max W.b_max ?_ hk l_max ?_ ?_
            · refine lCons ?_ ?_
              · refine xL 5 ?_ hk l_deepest ?_ <;> rfl
              refine lCons ?_ ?_
              · refine xBi bok_len W.b_len ?_ hk l_len ?_ ?_
                · refine lCons ?_ ?_
                  · refine xL 2 ?_ hk l_kept ?_ <;> rfl
                  exact lNil
                · rfl
                rfl
              exact lNil
            · rfl
            rfl
          · refine gName 5 ?_ hnd hk l_deepest <;> rfl
          · rfl
          · rfl
          rfl
        exact sims_nil
      refine sims_cons ?_ ?_
      · refine sims_if ?_ ?_ ?_
        · refine simc_and ?_ ?_
          · refine tCmp_ ?_ ?_ ?_
            · refine xL 9 ?_ hk l_opcode ?_ <;> rfl
            · exact sim_int
            rfl
          refine simc_and ?_ ?_
          · refine tCmp_ ?_ ?_ ?_
            · refine xL 2 ?_ hk l_kept ?_ <;> rfl
            · refine xList ?_ ?_
              · exact lNil
              rfl
            rfl
          refine simc_and ?_ ?_
          · refine tCmp_ ?_ ?_ ?_
            · refine xL 7 ?_ hk l_last ?_ <;> rfl
            · exact sim_int
            rfl
          exact simc_and_nil
        · refine sims_cons ?_ ?_
          · refine pAsg ?_ ?_ ?_ ?_ ?_
            · refine xLM (k := .pop) ?_ ?_ ?_ ?_ ?_ ?_ ?_
              · refine xL 2 ?_ hk l_kept ?_ <;> rfl
              · exact lNil
              · rfl
              · rfl
              · rfl
              · decide
              rfl
            · refine gName 1 ?_ hnd hk l_state <;> rfl
            · rfl
            · rfl
            rfl
          exact sims_nil
        refine sims_cons ?_ ?_
        · refine sims_if ?_ ?_ ?_
          · refine tCmp_ ?_ ?_ ?_
            · refine xL 9 ?_ hk l_opcode ?_ <;> rfl
            · exact sim_int
            rfl
          · refine sims_cons ?_ ?_
            · refine pAsg ?_ ?_ ?_ ?_ ?_
              · exact sim_int
              · refine gName 8 ?_ hnd hk l_room <;> rfl
              · rfl
              · rfl
              rfl
            refine sims_cons ?_ ?_
            · refine pExpr ?_ hk ?_
              · refine xLM (k := .append) ?_ ?_ ?_ ?_ ?_ ?_ ?_
                · refine xL 3 ?_ hk l_rows ?_ <;> rfl
                · refine lCons ?_ ?_
                  · refine xTup ?_ ?_
                    · refine lCons ?_ ?_
                      · refine sim_sub ?_ ?_
                        · refine xL 0 ?_ hk l_octets ?_ <;> rfl
                        refine sim_bin ?_ ?_
                        · refine xL 10 ?_ hk l_begin ?_ <;> rfl
                        exact sim_int
                      refine lCons ?_ ?_
                      · refine sim_sub ?_ ?_
                        · refine xL 1 ?_ hk l_state ?_ <;> rfl
                        exact sim_int
                      refine lCons ?_ ?_
                      · refine sim_sub ?_ ?_
                        · refine xL 1 ?_ hk l_state ?_ <;> rfl
                        exact sim_int
                      refine lCons ?_ ?_
                      · refine sim_sub ?_ ?_
                        · refine xL 4 ?_ hk l_took ?_ <;> rfl
                        exact sim_int
                      refine lCons ?_ ?_
                      · refine sim_sub ?_ ?_
                        · refine xL 4 ?_ hk l_took ?_ <;> rfl
                        exact sim_int
                      exact lNil
                    rfl
                  exact lNil
                · rfl
                · rfl
                · rfl
                · decide
                rfl
              rfl
            refine sims_cons ?_ ?_
            · refine pAsg ?_ ?_ ?_ ?_ ?_
              · refine xList ?_ ?_
                · refine lCons ?_ ?_
                  · exact sim_int
                  refine lCons ?_ ?_
                  · exact sim_int
                  exact lNil
                rfl
              · refine gName 4 ?_ hnd hk l_took <;> rfl
              · rfl
              · rfl
              rfl
            exact sims_nil
          refine sims_cons ?_ ?_
          · refine sims_if ?_ ?_ ?_
            · refine simc_chain ?_ ?_ ?_ ?_
              · exact sim_int
              · refine xL 9 ?_ hk l_opcode ?_ <;> rfl
              · exact sim_int
              rfl
            · refine sims_cons ?_ ?_
              · refine pAsg ?_ ?_ ?_ ?_ ?_
                · refine sim_sub ?_ ?_
                  · refine xTup ?_ ?_
                    · refine lCons ?_ ?_
                      · exact sim_int
                      refine lCons ?_ ?_
                      · exact sim_int
                      refine lCons ?_ ?_
                      · exact sim_int
                      refine lCons ?_ ?_
                      · exact sim_int
                      refine lCons ?_ ?_
                      · exact sim_int
                      refine lCons ?_ ?_
                      · exact sim_int
                      refine lCons ?_ ?_
                      · exact sim_int
                      refine lCons ?_ ?_
                      · exact sim_int
                      refine lCons ?_ ?_
                      · exact sim_int
                      refine lCons ?_ ?_
                      · exact sim_int
                      refine lCons ?_ ?_
                      · exact sim_int
                      refine lCons ?_ ?_
                      · exact sim_int
                      refine lCons ?_ ?_
                      · exact sim_int
                      refine lCons ?_ ?_
                      · exact sim_int
                      exact lNil
                    rfl
                  refine sim_bin ?_ ?_
                  · refine sim_bin ?_ ?_
                    · refine xL 9 ?_ hk l_opcode ?_ <;> rfl
                    exact sim_int
                  exact sim_int
                · refine gName 8 ?_ hnd hk l_room <;> rfl
                · rfl
                · rfl
                rfl
              refine sims_cons ?_ ?_
              · refine pExpr ?_ hk ?_
                · refine xCall f__law_move ?_ hk l__law_move ?_ ?_
                  · refine lCons ?_ ?_
                    · refine xL 9 ?_ hk l_opcode ?_ <;> rfl
                    refine lCons ?_ ?_
                    · refine sim_slice ?_ ?_ ?_
                      · refine xL 0 ?_ hk l_octets ?_ <;> rfl
                      · refine simo_some ?_
                        refine xL 10 ?_ hk l_begin ?_ <;> rfl
                      refine simo_some ?_
                      refine sim_bin ?_ ?_
                      · refine xL 10 ?_ hk l_begin ?_ <;> rfl
                      refine xL 8 ?_ hk l_room ?_ <;> rfl
                    refine lCons ?_ ?_
                    · refine xL 1 ?_ hk l_state ?_ <;> rfl
                    exact lNil
                  · rfl
                  rfl
                rfl
              refine sims_cons ?_ ?_
              · refine pAugSub ?_ ?_ ?_ ?_
                · refine xL 4 ?_ hk l_took ?_ <;> rfl
                · refine sim_bin ?_ ?_
                  · refine sim_bin ?_ ?_
                    · refine xL 9 ?_ hk l_opcode ?_ <;> rfl
                    exact sim_int
                  exact sim_int
                · refine sim_bin ?_ ?_
                  · exact sim_int
                  refine xL 8 ?_ hk l_room ?_ <;> rfl
                rfl
              exact sims_nil
            refine sims_cons ?_ ?_
            · refine sims_ret ?_
              exact sim_none
            exact sims_nil
          exact sims_nil
        exact sims_nil
      exact sims_nil
    refine sims_cons ?_ ?_
    · refine pSwap (names := ["place", "last"]) ?_ ?_ ?_ ?_ ?_ hnd hk ?_
      · refine xTup ?_ ?_
        · refine lCons ?_ ?_
          · refine sim_bin ?_ ?_
            · refine xL 10 ?_ hk l_begin ?_ <;> rfl
            refine xL 8 ?_ hk l_room ?_ <;> rfl
          refine lCons ?_ ?_
          · refine xL 9 ?_ hk l_opcode ?_ <;> rfl
          exact lNil
        rfl
      · rfl
      · exact (fun _ _ _ => by rw [hsc]; rfl)
      · rfl
      · decide
      rw [hsc]; rfl
    exact sims_nil
  refine sims_cons ?_ ?_
  · refine sims_ret ?_
    refine sim_if ?_ ?_ ?_
    · refine tCmp_ ?_ ?_ ?_
      · refine xL 2 ?_ hk l_kept ?_ <;> rfl
      · refine xList ?_ ?_
        · exact lNil
        rfl
      rfl
    · refine xTup ?_ ?_
      · refine lCons ?_ ?_
        · refine xL 3 ?_ hk l_rows ?_ <;> rfl
        refine lCons ?_ ?_
        · refine xL 5 ?_ hk l_deepest ?_ <;> rfl
        exact lNil
      rfl
    exact sim_none
  exact sims_nil
end
section
set_option genSizeOf false
set_option genSizeOfSpec false
set_option maxRecDepth 100000
set_option autoImplicit false
/-! rules of the combinators -/
noncomputable def seqK (m₂ : MS) (P : PS) : PS := fun fl ρ H => match fl with
  | .next => m₂ ρ H P
  | .brk => P .brk ρ H
  | .cont => P .cont ρ H
  | .ret v => P (.ret v) ρ H
theorem r_seq {m₁ m₂ : MS} {ρ : Loc} {H : AHeap} {P : PS} (h : m₁ ρ H (seqK m₂ P)) : sSeq m₁ m₂ ρ H P := h
theorem k_next (m₂ : MS) (P : PS) (ρ : Loc) (H : AHeap) : seqK m₂ P .next ρ H = m₂ ρ H P := rfl
theorem k_ret (m₂ : MS) (P : PS) (v : AV) (ρ : Loc) (H : AHeap) : seqK m₂ P (.ret v) ρ H = P (.ret v) ρ H := rfl
theorem k_brk (m₂ : MS) (P : PS) (ρ : Loc) (H : AHeap) : seqK m₂ P .brk ρ H = P .brk ρ H := rfl
theorem e_nil (ρ : Loc) (H : AHeap) (P : PS) : sNil ρ H P = P .next ρ H := rfl
theorem t_next (r : Loc → AHeap → Prop) (P : PS) (ρ : Loc) (H : AHeap) : afterTurn r P .next ρ H = r ρ H := rfl
theorem t_ret (r : Loc → AHeap → Prop) (P : PS) (v : AV) (ρ : Loc) (H : AHeap) : afterTurn r P (.ret v) ρ H = P (.ret v) ρ H := rfl
theorem e_sIf (t : MT) (a b : MS) (ρ : Loc) (H : AHeap) (P : PS) : sIf t a b ρ H P = t ρ H (fun c H => if c = true then a ρ H P else b ρ H P) := by
  unfold sIf; congr; funext c H; cases c <;> simp
theorem e_tAnd (a b : MT) (ρ : Loc) (H : AHeap) (P : Bool → AHeap → Prop) : tAnd a b ρ H P = a ρ H (fun c H => if c = true then b ρ H P else P false H) := by
  unfold tAnd; congr; funext c H; cases c <;> simp
theorem e_tOr (a b : MT) (ρ : Loc) (H : AHeap) (P : Bool → AHeap → Prop) : tOr a b ρ H P = a ρ H (fun c H => if c = true then P true H else b ρ H P) := by
  unfold tOr; congr; funext c H; cases c <;> simp
theorem e_mIf (t : MT) (a b : ME) (ρ : Loc) (H : AHeap) (P : AV → AHeap → Prop) : mIf t a b ρ H P = t ρ H (fun c H => if c = true then a ρ H P else b ρ H P) := by
  unfold mIf; congr; funext c H; cases c <;> simp
theorem e_tNot (a : MT) (ρ : Loc) (H : AHeap) (P : Bool → AHeap → Prop) : tNot a ρ H P = a ρ H (fun c H => P (!c) H) := rfl
theorem e_tVal (m : ME) (ρ : Loc) (H : AHeap) (P : Bool → AHeap → Prop) : tVal m ρ H P = m ρ H (fun v H => truthS v fun b => P b H) := rfl
theorem e_chain (o p : CmpOp) (a b d : ME) (ρ : Loc) (H : AHeap) (P : Bool → AHeap → Prop) : tChain o p a b d ρ H P = a ρ H (fun x H => b ρ H fun y H => cmpS o x y H fun c H => if c = true then d ρ H (fun z H => cmpS p y z H P) else P false H) := by
  unfold tChain; congr; funext x H; congr; funext y H; congr; funext c H; cases c <;> simp
theorem l_z (v : AV) (ρ : Loc) (H : AHeap) (P : AV → AHeap → Prop) : mLoc 0 (some v :: ρ) H P = P v H := rfl
theorem l_s (n : Nat) (x : Option AV) (ρ : Loc) (H : AHeap) (P : AV → AHeap → Prop) : mLoc (n + 1) (x :: ρ) H P = mLoc n ρ H P := by
  unfold mLoc; rw [List.getElem?_cons_succ]
theorem c_Eq (x y : Int) (H : AHeap) (P : Bool → AHeap → Prop) : cmpS .Eq (.int x) (.int y) H P = P (decide (x = y)) H := rfl
theorem c_Ne (x y : Int) (H : AHeap) (P : Bool → AHeap → Prop) : cmpS .NotEq (.int x) (.int y) H P = P (decide (x ≠ y)) H := rfl
theorem c_Lt (x y : Int) (H : AHeap) (P : Bool → AHeap → Prop) : cmpS .Lt (.int x) (.int y) H P = P (decide (x < y)) H := rfl
theorem c_Le (x y : Int) (H : AHeap) (P : Bool → AHeap → Prop) : cmpS .LtE (.int x) (.int y) H P = P (decide (x ≤ y)) H := rfl
theorem c_Gt (x y : Int) (H : AHeap) (P : Bool → AHeap → Prop) : cmpS .Gt (.int x) (.int y) H P = P (decide (y < x)) H := rfl
theorem c_Ge (x y : Int) (H : AHeap) (P : Bool → AHeap → Prop) : cmpS .GtE (.int x) (.int y) H P = P (decide (y ≤ x)) H := rfl
theorem b_Add (x y : Int) (H : AHeap) (P : AV → AHeap → Prop) : binS .Add (.int x) (.int y) H P = P (.int (x + y)) H := rfl
theorem b_Sub (x y : Int) (H : AHeap) (P : AV → AHeap → Prop) : binS .Sub (.int x) (.int y) H P = P (.int (x - y)) H := rfl
theorem b_Mul {x y : Int} (h : y.natAbs < 2 ^ 62) (H : AHeap) (P : AV → AHeap → Prop) : binS .Mult (.int x) (.int y) H P = P (.int (x * y)) H := by
  unfold binS; simp only [intOp, if_pos h]
theorem b_Div {x y : Int} (h : y ≠ 0 ∧ y.natAbs < 1073741824) (H : AHeap) (P : AV → AHeap → Prop) : binS .FloorDiv (.int x) (.int y) H P = P (.int (x.fdiv y)) H := by
  unfold binS; simp only [intOp, if_pos h]
theorem b_Mod {x y : Int} (h : y ≠ 0) (H : AHeap) (P : AV → AHeap → Prop) : binS .Mod (.int x) (.int y) H P = P (.int (x.fmod y)) H := by
  unfold binS; simp only [intOp, if_pos h]
theorem b_Pow {x y : Int} (h : 0 ≤ y ∧ y ≤ 1000 ∧ x.natAbs < 2 ^ 64) (H : AHeap) (P : AV → AHeap → Prop) : binS .Pow (.int x) (.int y) H P = P (.int (x ^ y.toNat)) H := by
  unfold binS; simp only [intOp, if_pos h]
theorem u_Neg (x : Int) (H : AHeap) (P : AV → AHeap → Prop) : unS .USub (.int x) H P = P (.int (-x)) H := rfl
theorem e_abs (x : Int) (H : AHeap) (P : AV → AHeap → Prop) : absS [.int x] H P = P (.int (if x < 0 then -x else x)) H := rfl
theorem e_int (x : Int) (H : AHeap) (P : AV → AHeap → Prop) : intS [.int x] H P = P (.int x) H := rfl
theorem e_intb (b : Bool) (H : AHeap) (P : AV → AHeap → Prop) : intS [.bool b] H P = P (.int (if b then 1 else 0)) H := rfl
theorem e_max (x y : Int) (H : AHeap) (P : AV → AHeap → Prop) : maxS [.int x, .int y] H P = P (.int (if y > x then y else x)) H := rfl
theorem e_len {l : Addr} {H : AHeap} {vs : List AV} (h : H l = some (.list vs)) (hz : vs.length ≤ LIM) (P : AV → AHeap → Prop) : lenS [.ref l] H P = P (.int vs.length) H := by
  unfold lenS; simp [h, hz]
theorem e_append {l : Addr} {H : AHeap} {vs : List AV} (h : H l = some (.list vs)) (hz : vs.length < LIM) (v : AV) (P : AV → AHeap → Prop) : lmS .append l [v] H P = P .none (upd H l (.list (vs ++ [v]))) := by
  unfold lmS; simp [h, hz]
theorem e_pop {l : Addr} {H : AHeap} {vs : List AV} {v : AV} (h : H l = some (.list (vs ++ [v]))) (hz : vs.length < LIM) (P : AV → AHeap → Prop) : lmS .pop l [] H P = P v (upd H l (.list vs)) := by
  unfold lmS
  apply propext
  constructor
  · rintro ⟨ws, w, e, _, hP⟩
    rw [h] at e
    have e' : vs ++ [v] = ws ++ [w] := by injection e with e; injection e
    have := List.append_inj' e' rfl
    obtain ⟨rfl, e2⟩ := this
    cases e2; exact hP
  · intro hP; exact ⟨vs, v, h, hz, hP⟩
theorem e_attr {C : Addr} {n : Str} {x dx : Addr} {fs : List (Str × AV)} {v : AV} {H : AHeap} (h1 : H x = some (.inst C dx)) (h2 : H dx = some (.attrs fs)) (h3 : getA n fs = some v) (P : AV → AHeap → Prop) : attrS C n (.ref x) H P = P v H := by
  unfold attrS; simp [h1, h2, h3]
theorem e_sub {l : Addr} {k : Int} {vs : List AV} {v : AV} {H : AHeap} (h : H l = some (.list vs) ∨ H l = some (.tup vs)) (h1 : -(2 ^ 62) ≤ k ∧ k < 2 ^ 62) (h2 : 0 ≤ idxOf vs.length k) (h3 : vs[(idxOf vs.length k).toNat]? = some v) (P : AV → AHeap → Prop) : subS (.ref l) (.int k) H P = P v H := by
  unfold subS
  apply propext
  constructor
  · rintro ⟨ws, w, e, _, _, _, hw, hP⟩
    have : ws = vs := by rcases h with h | h <;> rcases e with e | e <;> rw [h] at e <;> simp at e <;> exact e.symm
    subst this
    rw [h3] at hw; cases hw; exact hP
  · intro hP; exact ⟨vs, v, h, h2, h1.1, h1.2, h3, hP⟩
noncomputable def lmHead (k : LM) (o : AV) (ms : MA) (ρ : Loc) (H : AHeap) (P : AV → AHeap → Prop) : Prop := match o with
  | .ref l => (∃ vs, H l = some (.list vs)) ∧ ms ρ H fun vs H => lmS k l vs H P
  | _ => False
theorem e_lm {k : LM} {o : ME} {ms : MA} (ρ : Loc) (H : AHeap) (P : AV → AHeap → Prop) : mLM k o ms ρ H P = o ρ H fun o H => lmHead k o ms ρ H P := rfl
theorem e_lmH {k : LM} {l : Addr} {ms : MA} {ρ : Loc} {H : AHeap} {vs : List AV} (h : H l = some (.list vs)) (P : AV → AHeap → Prop) : lmHead k (.ref l) ms ρ H P = ms ρ H fun vs H => lmS k l vs H P := by
  unfold lmHead; simp [h]
noncomputable def methHead (C : Addr) (n : Str) (S : Spec) (o : AV) (ms : MA) (ρ : Loc) (H : AHeap) (P : AV → AHeap → Prop) : Prop := match o with
  | .ref x => ∃ dx fs, H x = some (.inst C dx) ∧ H dx = some (.attrs fs) ∧ getA n fs = none ∧ ms ρ H fun vs H => S (.ref x :: vs) H P
  | _ => False
theorem e_meth {C : Addr} {n : Str} {S : Spec} {o : ME} {ms : MA} (ρ : Loc) (H : AHeap) (P : AV → AHeap → Prop) : mMeth C n S o ms ρ H P = o ρ H fun o H => methHead C n S o ms ρ H P := rfl
theorem e_methH {C : Addr} {n : Str} {S : Spec} {x dx : Addr} {fs : List (Str × AV)} {ms : MA} {ρ : Loc} {H : AHeap} (h1 : H x = some (.inst C dx)) (h2 : H dx = some (.attrs fs)) (h3 : getA n fs = none) (P : AV → AHeap → Prop) : methHead C n S (.ref x) ms ρ H P = ms ρ H fun vs H => S (.ref x :: vs) H P := by
  unfold methHead; simp [h1, h2, h3]
theorem e_setAttr {C : Addr} {n : Str} {x dx : Addr} {fs : List (Str × AV)} {v : AV} {H : AHeap} (h1 : H x = some (.inst C dx)) (h2 : H dx = some (.attrs fs)) (h3 : fs.length ≤ 100) (k : AHeap → Prop) : setAttrS C n (.ref x) v H k = k (upd H dx (.attrs (putA n v fs))) := by
  unfold setAttrS; simp [h1, h2, h3]
theorem e_set {l : Addr} {j : Int} {vs : List AV} {v : AV} {H : AHeap} (h : H l = some (.list vs)) (h0 : 0 ≤ j ∧ j < vs.length) (hz : vs.length ≤ LIM) (k : AHeap → Prop) : setS (.ref l) (.int j) v H k = k (upd H l (.list (vs.set j.toNat v))) := by
  unfold setS; simp [h, h0.1, h0.2, hz]
theorem e_seqL {l : Addr} {vs : List AV} {H : AHeap} {n : Nat} (h : H l = some (.list vs) ∨ H l = some (.tup vs)) (hn : vs.length = n) (k : List AV → Prop) : seqS (.ref l) H n k = k vs := by
  unfold seqS
  rcases h with h | h <;> simp [h, hn]
theorem upd_old {H : AHeap} {n a : Addr} (o : AObj) (hn : H n = none) (ha : (H a).isSome = true) : upd H n o a = H a := by
  refine upd_ne _ _ fun e => ?_
  rw [e, hn] at ha; cases ha
theorem upd_upd (H : AHeap) (a : Addr) (x y : AObj) : upd (upd H a x) a y = upd H a y := by
  funext b; unfold upd; split <;> rfl
theorem upd_id {H : AHeap} {a : Addr} {x : AObj} (h : H a = some x) : upd H a x = H := by
  funext b; unfold upd; split
  · rename_i e; rw [e, h]
  · rfl
/-- what stands stays, but for X -/
noncomputable def Kp (X : List Addr) (H H' : AHeap) : Prop := ∀ a o, H a = some o → a ∉ X → H' a = some o
theorem Kp.refl (X : List Addr) (H : AHeap) : Kp X H H := fun _ _ h _ => h
theorem Kp.trans {X : List Addr} {H₁ H₂ H₃ : AHeap} (h : Kp X H₁ H₂) (k : Kp X H₂ H₃) : Kp X H₁ H₃ := fun a o e n => k a o (h a o e n) n
theorem Kp.mono {X Y : List Addr} {H₁ H₂ : AHeap} (h : Kp X H₁ H₂) (hs : ∀ a ∈ X, a ∈ Y) : Kp Y H₁ H₂ := fun a o e n => h a o e fun m => n (hs a m)
theorem Kp.upd {X : List Addr} {H : AHeap} {a : Addr} (o : AObj) (h : a ∈ X) : Kp X H (upd H a o) := fun b ob e n => by
  have ne : b ≠ a := fun q => n (by rw [q]; exact h)
  rw [upd_ne _ _ ne]; exact e
theorem Kp.new {X : List Addr} {H : AHeap} {a : Addr} (o : AObj) (h : H a = none) : Kp X H (Mine.upd H a o) := fun b ob e n => by rw [upd_old o h (by rw [e]; rfl)]; exact e

noncomputable def whK (t : MT) (body : MS) (n : Nat) (P : PS) : PS := fun fl ρ H => match fl with
  | .next => whileW t body n ρ H P
  | .cont => whileW t body n ρ H P
  | .brk => P .next ρ H
  | .ret v => P (.ret v) ρ H
theorem e_while (t : MT) (body : MS) (n : Nat) (ρ : Loc) (H : AHeap) (P : PS) : whileW t body (n + 1) ρ H P = t ρ H (fun b H => if b = true then body ρ H (whK t body n P) else P .next ρ H) := by
  show t ρ H _ = _
  congr; funext c H
  cases c
  · rfl
  · rw [if_pos rfl]
    congr
theorem w_next (t : MT) (body : MS) (n : Nat) (P : PS) (ρ : Loc) (H : AHeap) : whK t body n P .next ρ H = whileW t body n ρ H P := rfl
theorem w_ret (t : MT) (body : MS) (n : Nat) (P : PS) (v : AV) (ρ : Loc) (H : AHeap) : whK t body n P (.ret v) ρ H = P (.ret v) ρ H := rfl
theorem tt2 (t0 t1 : Tg) (v : AV) (ρ : Loc) (H : AHeap) (k : Loc → AHeap → Prop) : tTup [t0, t1] v ρ H k = seqS v H 2 (fun vs => tEach [t0, t1] vs ρ H k) := rfl
theorem tt3 (t0 t1 t2 : Tg) (v : AV) (ρ : Loc) (H : AHeap) (k : Loc → AHeap → Prop) : tTup [t0, t1, t2] v ρ H k = seqS v H 3 (fun vs => tEach [t0, t1, t2] vs ρ H k) := rfl
theorem tt5 (t0 t1 t2 t3 t4 : Tg) (v : AV) (ρ : Loc) (H : AHeap) (k : Loc → AHeap → Prop) : tTup [t0, t1, t2, t3, t4] v ρ H k = seqS v H 5 (fun vs => tEach [t0, t1, t2, t3, t4] vs ρ H k) := rfl
theorem tt6 (t0 t1 t2 t3 t4 t5 : Tg) (v : AV) (ρ : Loc) (H : AHeap) (k : Loc → AHeap → Prop) : tTup [t0, t1, t2, t3, t4, t5] v ρ H k = seqS v H 6 (fun vs => tEach [t0, t1, t2, t3, t4, t5] vs ρ H k) := rfl
theorem tt7 (t0 t1 t2 t3 t4 t5 t6 : Tg) (v : AV) (ρ : Loc) (H : AHeap) (k : Loc → AHeap → Prop) : tTup [t0, t1, t2, t3, t4, t5, t6] v ρ H k = seqS v H 7 (fun vs => tEach [t0, t1, t2, t3, t4, t5, t6] vs ρ H k) := rfl
theorem te_c (t : Tg) (ts : List Tg) (v : AV) (vs : List AV) (ρ : Loc) (H : AHeap) (k : Loc → AHeap → Prop) : tEach (t :: ts) (v :: vs) ρ H k = t v ρ H fun ρ H => tEach ts vs ρ H k := rfl
theorem te_n (ρ : Loc) (H : AHeap) (k : Loc → AHeap → Prop) : tEach [] [] ρ H k = k ρ H := rfl
end
section
set_option genSizeOf false
set_option genSizeOfSpec false
set_option maxRecDepth 100000
set_option autoImplicit false
/-! the defs of the text: numbers -/
noncomputable def bytesN (n : Int) : Nat → List Int
  | 0 => []
  | r + 1 => (n.fdiv (256 ^ r)).fmod 256 :: bytesN n r
noncomputable def put_numberS : Spec := fun args H P => match args with
  | [.ref o, .int n, .int r] => ∃ oct, H o = some (.list (intsV oct)) ∧ 0 ≤ r ∧ r ≤ 4 ∧ oct.length + 10 ≤ LIM ∧ P .none (upd H o (.list (intsV (oct ++ bytesN n r.toNat))))
  | _ => False
theorem intsV_append (a b : List Int) : intsV (a ++ b) = intsV a ++ intsV b := List.map_append
theorem intsV_length (a : List Int) : (intsV a).length = a.length := by unfold intsV; simp
theorem bytesN_length (n : Int) : ∀ r, (bytesN n r).length = r
  | 0 => rfl
  | r + 1 => by rw [bytesN, List.length_cons, bytesN_length n r]
theorem p256 : ∀ k < 4, ((256 : Int) ^ k ≠ 0) ∧ ((256 : Int) ^ k).natAbs < 1073741824 := by decide +kernel
theorem pow256 {k : Nat} (h : k ≤ 3) : ((256 : Int) ^ k ≠ 0) ∧ ((256 : Int) ^ k).natAbs < 1073741824 := p256 k (Nat.lt_succ_of_le h)
theorem clip_nn (n k : Nat) : clipAt n (k : Int) = min k n := by
  unfold clipAt
  rw [if_neg (Int.not_lt.mpr (Int.natCast_nonneg k)), Int.max_eq_right (Int.le_min.mpr ⟨Int.natCast_nonneg k, Int.natCast_nonneg n⟩)]
  rcases Nat.le_total k n with h | h
  · rw [Int.min_eq_left (Int.ofNat_le.mpr h), Nat.min_eq_left h]; rfl
  · rw [Int.min_eq_right (Int.ofNat_le.mpr h), Nat.min_eq_right h]; rfl
theorem put_number_loop (D : Ad) (o : Addr) (n r : Int) (P : PS) : ∀ (k : Nat) (x : Option AV) (oct : List Int) (H : AHeap), k ≤ 4 → H o = some (.list (intsV oct)) → oct.length + k + 4 ≤ LIM →
    (∀ ρ, P .next ρ (upd H o (.list (intsV (oct ++ bytesN n k))))) →
    forR (tName 3) (sSeq (sExpr (mLM .append (mLoc 0) (aCons (mBin .Mod (mBin .FloorDiv (mLoc 1) (mBin .Pow (mConst (.int 256)) (mLoc 3))) (mConst (.int 256))) aNil))) sNil) (downList (k - 1) k) [some (.ref o), some (.int n), some (.int r), x] H P := by
  intro k
  induction k with
  | zero =>
    intro x oct H hk hH hz hP
    have := hP [some (.ref o), some (.int n), some (.int r), x]
    rw [bytesN, List.append_nil, upd_id hH] at this
    exact this
  | succ k ih =>
    intro x oct H hk hH hz hP
    unfold downList forR
    try simp (disch := omega) only [tName, List.set_cons_zero, List.set_cons_succ]
    refine r_seq ?_
    try simp (disch := omega) only [k_next, e_nil, t_next, l_z, e_lm, sExpr]
    rw [e_lmH hH]
    try simp (disch := omega) only [l_z, l_s, b_Pow, mConst, mBin, aCons, aNil]
    have e : ((k + 1 : Nat) : Int) - 1 = k := by omega
    rw [e, Int.toNat_natCast]
    obtain ⟨p1, p2⟩ := pow256 (k := k) (by omega)
    rw [b_Div ⟨p1, p2⟩, b_Mod (by decide), e_append hH (by rw [intsV_length]; omega)]
    have e2 : intsV oct ++ [AV.int ((n.fdiv (256 ^ k)).fmod 256)] = intsV (oct ++ [(n.fdiv (256 ^ k)).fmod 256]) := by rw [intsV_append]; rfl
    rw [e2]
    refine ih _ _ _ (by omega) (upd_self _ _ _) (by rw [List.length_append, List.length_singleton]; omega) fun ρ => ?_
    rw [upd_upd, List.append_assoc]
    exact hP ρ
theorem put_numberS_inv {args : List AV} {H : AHeap} {P : AV → AHeap → Prop} (h : put_numberS args H P) : ∃ o n r, args = [.ref o, .int n, .int r] ∧ put_numberS [.ref o, .int n, .int r] H P := by
  cases args with
  | nil => exact h.elim
  | cons a0 l0 =>
    cases a0 with
    | none => exact h.elim
    | bool _ => exact h.elim
    | int _ => exact h.elim
    | bytes _ => exact h.elim
    | ref o =>
      cases l0 with
      | nil => exact h.elim
      | cons a1 l1 =>
        cases a1 with
        | none => exact h.elim
        | bool _ => exact h.elim
        | bytes _ => exact h.elim
        | ref _ => exact h.elim
        | int n =>
          cases l1 with
          | nil => exact h.elim
          | cons a2 l2 =>
            cases a2 with
            | none => exact h.elim
            | bool _ => exact h.elim
            | bytes _ => exact h.elim
            | ref _ => exact h.elim
            | int r =>
              cases l2 with
              | cons _ _ => exact h.elim
              | nil => exact ⟨_, _, _, rfl, h⟩
theorem put_number_ok (D : Ad) : ∀ args H P, put_numberS args H P → args.length = 3 ∧ m_put_number D (startLoc args 1) H (fun fl _ H' => match fl with | .ret v => P v H' | .next => P .none H' | _ => False) := by
  intro args H P h
  obtain ⟨o, n, r, rfl, h⟩ := put_numberS_inv h
  · unfold put_numberS at h
    (try dsimp only at h)
    obtain ⟨oct, hH, h0, h4, hz, hP⟩ := h
    refine ⟨rfl, ?_⟩
    unfold m_put_number
    refine r_seq ?_
    try simp (disch := omega) only [l_z, l_s, b_Sub, u_Neg, sForR, mConst, mBin, mUn, aCons, aNil, rangeS, startLoc, List.map_cons, List.map_nil, List.replicate, List.cons_append, List.nil_append, true_and]
    refine ⟨by omega, by omega, ?_⟩
    obtain ⟨k, rfl⟩ : ∃ k : Nat, r = k := ⟨r.toNat, by omega⟩
    have e : ((k : Int) - 1 + 1).toNat = k := by omega
    rw [e]
    refine put_number_loop D o n _ _ k none oct H (by omega) hH (by omega) fun ρ => ?_
    rw [Int.toNat_natCast] at hP
    try simp (disch := omega) only [k_next, e_nil]
    exact hP

noncomputable def roomS (size : Int) : Nat := if size.natAbs < 128 then 1 else if size.natAbs < 32768 then 2 else if size.natAbs < 8388608 then 3 else 4
theorem roomS_pos (s : Int) : 1 ≤ roomS s ∧ roomS s ≤ 4 := by unfold roomS; split; omega; split; omega; split <;> omega
noncomputable def signedB (first size : Int) : List Int := (first + roomS size - 1) :: bytesN size (roomS size)
theorem signedB_length (f s : Int) : (signedB f s).length = 1 + roomS s := by unfold signedB; rw [List.length_cons, bytesN_length]; omega
noncomputable def put_signedS : Spec := fun args H P => match args with
  | [.ref o, .int first, .int size] => ∃ oct, H o = some (.list (intsV oct)) ∧ oct.length + 20 ≤ LIM ∧ P .none (upd H o (.list (intsV (oct ++ signedB first size))))
  | _ => False
theorem ps_step (o : Addr) (f n : Int) (H : AHeap) (P : PS) (fuel k : Nat) (hk : 1 ≤ k ∧ k ≤ 3) : whileW (tAnd (tCmp .Lt (mLoc 3) (mConst (.int 4))) (tAnd (tCmp .GtE (mCall absS (aCons (mLoc 2) aNil)) (mBin .Mult (mConst (.int 128)) (mBin .Pow (mConst (.int 256)) (mBin .Sub (mLoc 3) (mConst (.int 1)))))) tTrue)) (sSeq (sAugName 3 .Add (mConst (.int 1))) sNil) (fuel + 1) [some (.ref o), some (.int f), some (.int n), some (.int k)] H P =
    if 128 * 256 ^ (k - 1) ≤ n.natAbs then whileW (tAnd (tCmp .Lt (mLoc 3) (mConst (.int 4))) (tAnd (tCmp .GtE (mCall absS (aCons (mLoc 2) aNil)) (mBin .Mult (mConst (.int 128)) (mBin .Pow (mConst (.int 256)) (mBin .Sub (mLoc 3) (mConst (.int 1)))))) tTrue)) (sSeq (sAugName 3 .Add (mConst (.int 1))) sNil) fuel [some (.ref o), some (.int f), some (.int n), some (.int ((k + 1 : Nat) : Int))] H P else P .next [some (.ref o), some (.int f), some (.int n), some (.int k)] H := by
  rw [e_while]
  try simp (disch := omega) only [e_tAnd, l_z, l_s, c_Lt, b_Sub, b_Pow, e_abs, mConst, mBin, tCmp, mCall, aCons, aNil, tTrue, decide_eq_true_eq, if_true, Bool.false_eq_true, if_false]
  have e1 : (k : Int) < 4 := by omega
  have e2 : ((k : Int) - 1).toNat = k - 1 := by omega
  have e3 : (256 ^ (k - 1) : Int).natAbs < 2 ^ 62 := by
    have := (pow256 (k := k - 1) (by omega)).2
    omega
  rw [if_pos e1, e2, b_Mul e3]
  have e4 : (128 * 256 ^ (k - 1) : Int) ≤ (if n < 0 then -n else n) ↔ 128 * 256 ^ (k - 1) ≤ n.natAbs := by
    have : ((128 * 256 ^ (k - 1) : Nat) : Int) = 128 * 256 ^ (k - 1) := by push_cast; rfl
    rw [← this]
    split <;> omega
  try simp (disch := omega) only [c_Ge, decide_eq_true_eq]
  simp only [e4]
  by_cases q : 128 * 256 ^ (k - 1) ≤ n.natAbs
  · rw [if_pos q, if_pos q]
    show sSeq _ _ _ _ _ = _
    unfold sSeq
    try simp (disch := omega) only [e_nil, w_next, l_z, l_s, sAugName, List.set_cons_zero, List.set_cons_succ, mConst]
    rfl
  · rw [if_neg q, if_neg q]
theorem ps_end (o : Addr) (f n : Int) (H : AHeap) (P : PS) (fuel : Nat) : whileW (tAnd (tCmp .Lt (mLoc 3) (mConst (.int 4))) (tAnd (tCmp .GtE (mCall absS (aCons (mLoc 2) aNil)) (mBin .Mult (mConst (.int 128)) (mBin .Pow (mConst (.int 256)) (mBin .Sub (mLoc 3) (mConst (.int 1)))))) tTrue)) (sSeq (sAugName 3 .Add (mConst (.int 1))) sNil) (fuel + 1) [some (.ref o), some (.int f), some (.int n), some (.int (4 : Nat))] H P = P .next [some (.ref o), some (.int f), some (.int n), some (.int (4 : Nat))] H := by
  rw [e_while]
  try simp (disch := omega) only [e_tAnd, l_z, l_s, c_Lt, c_Ge, b_Sub, b_Mul, b_Pow, e_abs, mConst, mBin, tCmp, mCall, aCons, aNil, tTrue, decide_eq_true_eq, if_true, Bool.false_eq_true, if_false]
  rw [if_neg (by decide)]
theorem put_signedS_inv {args : List AV} {H : AHeap} {P : AV → AHeap → Prop} (h : put_signedS args H P) : ∃ o first size, args = [.ref o, .int first, .int size] ∧ put_signedS [.ref o, .int first, .int size] H P := by
  cases args with
  | nil => exact h.elim
  | cons a0 l0 =>
    cases a0 with
    | none => exact h.elim
    | bool _ => exact h.elim
    | int _ => exact h.elim
    | bytes _ => exact h.elim
    | ref o =>
      cases l0 with
      | nil => exact h.elim
      | cons a1 l1 =>
        cases a1 with
        | none => exact h.elim
        | bool _ => exact h.elim
        | bytes _ => exact h.elim
        | ref _ => exact h.elim
        | int first =>
          cases l1 with
          | nil => exact h.elim
          | cons a2 l2 =>
            cases a2 with
            | none => exact h.elim
            | bool _ => exact h.elim
            | bytes _ => exact h.elim
            | ref _ => exact h.elim
            | int size =>
              cases l2 with
              | cons _ _ => exact h.elim
              | nil => exact ⟨_, _, _, rfl, h⟩
theorem put_signed_ok (D : Ad) (hD : D.put_numberS = put_numberS) : ∀ args H P, put_signedS args H P → args.length = 3 ∧ m_put_signed D (startLoc args 1) H (fun fl _ H' => match fl with | .ret v => P v H' | .next => P .none H' | _ => False) := by
  intro args H P h
  obtain ⟨o, f, n, rfl, h⟩ := put_signedS_inv h
  · unfold put_signedS at h
    (try dsimp only at h)
    obtain ⟨oct, hH, hz, hP⟩ := h
    refine ⟨rfl, ?_⟩
    unfold m_put_signed
    refine r_seq ?_
    try simp (disch := omega) only [k_next, sAssign, tName, List.set_cons_zero, List.set_cons_succ, mConst, startLoc, List.map_cons, List.map_nil, List.replicate, List.cons_append, List.nil_append]
    refine r_seq ?_
    have key : ∀ P : PS, P .next [some (.ref o), some (.int f), some (.int n), some (.int (roomS n))] H → sWhile (tAnd (tCmp .Lt (mLoc 3) (mConst (.int 4))) (tAnd (tCmp .GtE (mCall absS (aCons (mLoc 2) aNil)) (mBin .Mult (mConst (.int 128)) (mBin .Pow (mConst (.int 256)) (mBin .Sub (mLoc 3) (mConst (.int 1)))))) tTrue)) (sSeq (sAugName 3 .Add (mConst (.int 1))) sNil) [some (.ref o), some (.int f), some (.int n), some (.int 1)] H P := by
      intro P hP
      refine ⟨4, ?_⟩
      have e := ps_step o f n H P 3 1 (by omega)
      have e2 := ps_step o f n H P 2 2 (by omega)
      have e3 := ps_step o f n H P 1 3 (by omega)
      have e4 := ps_end o f n H P 0
      have e' : (((1 : Nat) : Int)) = 1 := rfl
      rw [e'] at e
      rw [e]
      unfold roomS at hP
      by_cases q1 : n.natAbs < 128
      · rw [if_neg (by omega)]
        rw [if_pos q1] at hP; exact hP
      · rw [if_pos (by omega), e2]
        rw [if_neg q1] at hP
        by_cases q2 : n.natAbs < 32768
        · rw [if_neg (by omega)]
          rw [if_pos q2] at hP; exact hP
        · rw [if_pos (by omega), e3]
          rw [if_neg q2] at hP
          by_cases q3 : n.natAbs < 8388608
          · rw [if_neg (by omega)]
            rw [if_pos q3] at hP; exact hP
          · rw [if_pos (by omega), e4]
            rw [if_neg q3] at hP; exact hP
    refine key _ ?_
    try simp (disch := omega) only [k_next]
    refine r_seq ?_
    try simp (disch := omega) only [k_next, l_z, e_lm, sExpr]
    rw [e_lmH hH]
    try simp (disch := omega) only [l_z, l_s, b_Add, b_Sub, mConst, mBin, aCons, aNil]
    rw [e_append hH (by rw [intsV_length]; omega)]
    refine r_seq ?_
    try simp (disch := omega) only [k_next, e_nil, l_z, l_s, sExpr, mCall, aCons, aNil]
    rw [hD]
    have hr := roomS_pos n
    have e2 : intsV oct ++ [AV.int (f + roomS n - 1)] = intsV (oct ++ [f + roomS n - 1]) := by rw [intsV_append]; rfl
    rw [e2]
    refine ⟨_, upd_self _ _ _, by omega, by omega, by rw [List.length_append, List.length_singleton]; omega, ?_⟩
    rw [upd_upd, List.append_assoc, Int.toNat_natCast]
    try simp (disch := omega) only [List.cons_append, List.nil_append]
    exact hP

noncomputable def put_countedS : Spec := fun args H P => match args with
  | [.ref o, .int first, .int n] => ∃ oct, H o = some (.list (intsV oct)) ∧ oct.length + 20 ≤ LIM ∧ 0 ≤ n ∧ n < 256 ∧ P .none (upd H o (.list (intsV (oct ++ [first, n]))))
  | _ => False
theorem put_countedS_inv {args : List AV} {H : AHeap} {P : AV → AHeap → Prop} (h : put_countedS args H P) : ∃ o first n, args = [.ref o, .int first, .int n] ∧ put_countedS [.ref o, .int first, .int n] H P := by
  cases args with
  | nil => exact h.elim
  | cons a0 l0 =>
    cases a0 with
    | none => exact h.elim
    | bool _ => exact h.elim
    | int _ => exact h.elim
    | bytes _ => exact h.elim
    | ref o =>
      cases l0 with
      | nil => exact h.elim
      | cons a1 l1 =>
        cases a1 with
        | none => exact h.elim
        | bool _ => exact h.elim
        | bytes _ => exact h.elim
        | ref _ => exact h.elim
        | int first =>
          cases l1 with
          | nil => exact h.elim
          | cons a2 l2 =>
            cases a2 with
            | none => exact h.elim
            | bool _ => exact h.elim
            | bytes _ => exact h.elim
            | ref _ => exact h.elim
            | int n =>
              cases l2 with
              | cons _ _ => exact h.elim
              | nil => exact ⟨_, _, _, rfl, h⟩
theorem put_counted_ok (D : Ad) (hD : D.put_numberS = put_numberS) : ∀ args H P, put_countedS args H P → args.length = 3 ∧ m_put_counted D (startLoc args 1) H (fun fl _ H' => match fl with | .ret v => P v H' | .next => P .none H' | _ => False) := by
  intro args H P h
  obtain ⟨o, f, n, rfl, h⟩ := put_countedS_inv h
  · unfold put_countedS at h
    (try dsimp only at h)
    obtain ⟨oct, hH, hz, h0, h1, hP⟩ := h
    refine ⟨rfl, ?_⟩
    unfold m_put_counted
    refine r_seq ?_
    try simp (disch := omega) only [k_next, sAssign, tName, List.set_cons_zero, List.set_cons_succ, mConst, startLoc, List.map_cons, List.map_nil, List.replicate, List.cons_append, List.nil_append]
    refine r_seq ?_
    refine ⟨1, ?_⟩
    rw [e_while]
    try simp (disch := omega) only [k_next, e_tAnd, l_z, l_s, c_Lt, c_Ge, b_Pow, mConst, mBin, tCmp, tTrue, decide_eq_true_eq, if_true, Bool.false_eq_true, if_false]
    have e : ¬ ((256 : Int) ^ (1 : Int).toNat ≤ n) := by
      have : (256 : Int) ^ (1 : Int).toNat = 256 := by decide
      omega
    rw [if_pos (by decide), if_neg e]
    refine r_seq ?_
    try simp (disch := omega) only [k_next, l_z, e_lm, sExpr]
    rw [e_lmH hH]
    try simp (disch := omega) only [l_z, l_s, b_Add, b_Sub, mConst, mBin, aCons, aNil]
    rw [e_append hH (by rw [intsV_length]; omega)]
    refine r_seq ?_
    try simp (disch := omega) only [k_next, e_nil, l_z, l_s, sExpr, mCall, aCons, aNil]
    rw [hD]
    have e2 : intsV oct ++ [AV.int (f + 1 - 1)] = intsV (oct ++ [f]) := by
      rw [intsV_append]
      have : f + 1 - 1 = f := by omega
      rw [this]; rfl
    rw [e2]
    refine ⟨_, upd_self _ _ _, by omega, by omega, by rw [List.length_append, List.length_singleton]; omega, ?_⟩
    have e3 : bytesN n (1 : Int).toNat = [n] := by
      show [(n.fdiv (256 ^ 0)).fmod 256] = [n]
      have : (n.fdiv (256 ^ 0)).fmod 256 = n := by
        rw [Int.pow_zero, Int.fdiv_one, Int.fmod_eq_emod_of_nonneg _ (by decide)]
        omega
      rw [this]
    rw [upd_upd, List.append_assoc, e3]
    try simp (disch := omega) only [List.cons_append, List.nil_append]
    exact hP

noncomputable def check_placeS : Spec := fun args H P => match args with
  | [.int x] => x.natAbs ≤ 1073741823 ∧ P (.int x) H
  | _ => False
theorem check_placeS_inv {args : List AV} {H : AHeap} {P : AV → AHeap → Prop} (h : check_placeS args H P) : ∃ x, args = [.int x] ∧ check_placeS [.int x] H P := by
  cases args with
  | nil => exact h.elim
  | cons a0 l0 =>
    cases a0 with
    | none => exact h.elim
    | bool _ => exact h.elim
    | bytes _ => exact h.elim
    | ref _ => exact h.elim
    | int x =>
      cases l0 with
      | cons _ _ => exact h.elim
      | nil => exact ⟨_, rfl, h⟩
theorem check_place_ok (D : Ad) : ∀ args H P, check_placeS args H P → args.length = 1 ∧ m_check_place D (startLoc args 0) H (fun fl _ H' => match fl with | .ret v => P v H' | .next => P .none H' | _ => False) := by
  intro args H P h
  obtain ⟨x, rfl, h⟩ := check_placeS_inv h
  · unfold check_placeS at h
    (try dsimp only at h)
    obtain ⟨hx, hP⟩ := h
    refine ⟨rfl, ?_⟩
    unfold m_check_place
    refine r_seq ?_
    try simp (disch := omega) only [k_next, e_nil, e_sIf, l_z, c_Gt, e_abs, mConst, tCmp, mCall, aCons, aNil, decide_eq_true_eq, startLoc, List.map_cons, List.map_nil, List.replicate, List.cons_append, List.nil_append]
    rw [if_neg (by split <;> omega)]
    refine r_seq ?_
    try simp (disch := omega) only [k_ret, l_z, sRet]
    exact hP
/-- used: the first register (4), or the second -/
noncomputable def barredP (st used : Int) : Int := if used = 4 then (if st = 0 then 2 else if st = 1 then 3 else st) else (if st = 0 then 1 else if st = 2 then 3 else st)
noncomputable def barredS : Spec := fun args H P => match args with
  | [.int st, .int u] => P (.int (barredP st u)) H
  | _ => False
theorem barredS_inv {args : List AV} {H : AHeap} {P : AV → AHeap → Prop} (h : barredS args H P) : ∃ st u, args = [.int st, .int u] ∧ barredS [.int st, .int u] H P := by
  cases args with
  | nil => exact h.elim
  | cons a0 l0 =>
    cases a0 with
    | none => exact h.elim
    | bool _ => exact h.elim
    | bytes _ => exact h.elim
    | ref _ => exact h.elim
    | int st =>
      cases l0 with
      | nil => exact h.elim
      | cons a1 l1 =>
        cases a1 with
        | none => exact h.elim
        | bool _ => exact h.elim
        | bytes _ => exact h.elim
        | ref _ => exact h.elim
        | int u =>
          cases l1 with
          | cons _ _ => exact h.elim
          | nil => exact ⟨_, _, rfl, h⟩
theorem barred_ok (D : Ad) : ∀ args H P, barredS args H P → args.length = 2 ∧ m_barred D (startLoc args 0) H (fun fl _ H' => match fl with | .ret v => P v H' | .next => P .none H' | _ => False) := by
  intro args H P h
  obtain ⟨st, u, rfl, h⟩ := barredS_inv h
  · unfold barredS at h
    (try dsimp only at h)
    refine ⟨rfl, ?_⟩
    unfold m_barred
    refine r_seq ?_
    unfold barredP at h
    try simp (disch := omega) only [k_next, e_nil, e_sIf, l_z, l_s, c_Eq, mConst, tCmp, decide_eq_true_eq, startLoc, List.map_cons, List.map_nil, List.replicate, List.cons_append, List.nil_append]
    by_cases q : u = 4
    · rw [if_pos q]
      rw [if_pos q] at h
      refine r_seq ?_
      try simp (disch := omega) only [k_ret, e_mIf, l_z, c_Eq, sRet, mConst, tCmp, decide_eq_true_eq]
      split
      · rename_i q2; rw [if_pos q2] at h; exact h
      · rename_i q2; rw [if_neg q2] at h
        split
        · rename_i q3; rw [if_pos q3] at h; exact h
        · rename_i q3; rw [if_neg q3] at h; exact h
    · rw [if_neg q]
      rw [if_neg q] at h
      refine r_seq ?_
      try simp (disch := omega) only [k_ret, e_mIf, l_z, c_Eq, sRet, mConst, tCmp, decide_eq_true_eq]
      split
      · rename_i q2; rw [if_pos q2] at h; exact h
      · rename_i q2; rw [if_neg q2] at h
        split
        · rename_i q3; rw [if_pos q3] at h; exact h
        · rename_i q3; rw [if_neg q3] at h; exact h
end
section
set_option genSizeOf false
set_option genSizeOfSpec false
set_option maxRecDepth 100000
set_option autoImplicit false
structure Row where
  size : Int
  spot : Nat
  st : Int
noncomputable def rowV (r : Row) : List AV := [.int r.size, .int r.spot, .int r.st]
inductive RowsT (H : AHeap) : List Addr → List Row → Prop
  | nil : RowsT H [] []
  | cons {a : Addr} {r : Row} {as : List Addr} {rs : List Row} : H a = some (.list (rowV r)) → RowsT H as rs → RowsT H (a :: as) (r :: rs)
theorem RowsT.length {H : AHeap} {as : List Addr} {rs : List Row} (h : RowsT H as rs) : as.length = rs.length := by
  induction h with
  | nil => rfl
  | cons _ _ ih => simp [ih]
theorem RowsT.append {H : AHeap} {as bs : List Addr} {rs ss : List Row} (h : RowsT H as rs) (k : RowsT H bs ss) : RowsT H (as ++ bs) (rs ++ ss) := by
  induction h with
  | nil => exact k
  | cons e _ ih => exact .cons e ih
theorem RowsT.split {H : AHeap} {rs ss : List Row} : ∀ {as : List Addr}, RowsT H as (rs ++ ss) → ∃ bs cs, as = bs ++ cs ∧ RowsT H bs rs ∧ RowsT H cs ss := by
  induction rs with
  | nil => intro as h; exact ⟨[], as, rfl, .nil, h⟩
  | cons r rs ih =>
    intro as h
    cases h with
    | cons e h => obtain ⟨bs, cs, rfl, h1, h2⟩ := ih h; exact ⟨_ :: bs, cs, rfl, .cons e h1, h2⟩
theorem RowsT.get {H : AHeap} {as : List Addr} {rs : List Row} (h : RowsT H as rs) : ∀ {i : Nat} {r : Row}, rs[i]? = some r → ∃ a, as[i]? = some a ∧ H a = some (.list (rowV r)) := by
  induction h with
  | nil => intro i r e; simp at e
  | cons e _ ih =>
    intro i r q
    cases i with
    | zero => simp at q; subst q; exact ⟨_, rfl, e⟩
    | succ i => simp at q; obtain ⟨a, h1, h2⟩ := ih q; exact ⟨a, by simpa using h1, h2⟩
theorem RowsT.take {H : AHeap} {as : List Addr} {rs : List Row} (h : RowsT H as rs) : ∀ k, RowsT H (as.take k) (rs.take k) := by
  induction h with
  | nil => intro k; simp; exact .nil
  | cons e _ ih => intro k; cases k with
    | zero => exact .nil
    | succ k => exact .cons e (ih k)
theorem RowsT.kp {X : List Addr} {H H' : AHeap} {as : List Addr} {rs : List Row} (h : RowsT H as rs) (k : Kp X H H') (hd : ∀ a ∈ as, a ∉ X) : RowsT H' as rs := by
  induction h with
  | nil => exact .nil
  | cons e _ ih => exact .cons (k _ _ e (hd _ (.head _))) (ih fun a ha => hd a (.tail _ ha))
theorem RowsT.some {H : AHeap} {as : List Addr} {rs : List Row} (h : RowsT H as rs) : ∀ a ∈ as, (H a).isSome = true := by
  induction h with
  | nil => intro a ha; cases ha
  | cons e _ ih => intro a ha; cases ha with
    | head => rw [e]; rfl
    | tail _ ha => exact ih a ha
/-- a Moves object: its dict, its list of rows -/
noncomputable def MovesAt (cM : Addr) (H : AHeap) (a d : Addr) (plain : Int) (l : Addr) : Prop := H a = some (.inst cM d) ∧ H d = some (.attrs [("plain", .int plain), ("rows", .ref l)])
theorem MovesAt.kp {X : List Addr} {cM : Addr} {H H' : AHeap} {a d l : Addr} {plain : Int} (h : MovesAt cM H a d plain l) (k : Kp X H H') (h1 : a ∉ X) (h2 : d ∉ X) : MovesAt cM H' a d plain l := ⟨k _ _ h.1 h1, k _ _ h.2 h2⟩
theorem MovesAt.rows {cM : Addr} {H : AHeap} {a d : Addr} {plain : Int} {l : Addr} (h : MovesAt cM H a d plain l) (P : AV → AHeap → Prop) : attrS cM "rows" (.ref a) H P = P (.ref l) H := e_attr h.1 h.2 rfl P
theorem MovesAt.plain {cM : Addr} {H : AHeap} {a d : Addr} {plain : Int} {l : Addr} (h : MovesAt cM H a d plain l) (P : AV → AHeap → Prop) : attrS cM "plain" (.ref a) H P = P (.int plain) H := e_attr h.1 h.2 rfl P
theorem ne_of_obj {H : AHeap} {a b : Addr} {x y : AObj} (h : H a = some x) (k : H b = some y) (n : x ≠ y) : a ≠ b := fun e => by
  subst e; rw [h] at k; injection k with k; exact n k

noncomputable def movesInitS (cM : Addr) : Spec := fun args H P => match args with
  | [.ref a, .int plain] => ∃ d, H a = some (.inst cM d) ∧ H d = some (.attrs []) ∧ ∀ l, H l = none → P .none (upd (upd (upd H d (.attrs [("plain", .int plain)])) l (.list [])) d (.attrs [("plain", .int plain), ("rows", .ref l)]))
  | _ => False
theorem movesInitS_inv {cM : Addr} {args : List AV} {H : AHeap} {P : AV → AHeap → Prop} (h : movesInitS cM args H P) : ∃ a plain, args = [.ref a, .int plain] ∧ movesInitS cM [.ref a, .int plain] H P := by
  cases args with
  | nil => exact h.elim
  | cons a0 l0 =>
    cases a0 with
    | none => exact h.elim
    | bool _ => exact h.elim
    | int _ => exact h.elim
    | bytes _ => exact h.elim
    | ref a =>
      cases l0 with
      | nil => exact h.elim
      | cons a1 l1 =>
        cases a1 with
        | none => exact h.elim
        | bool _ => exact h.elim
        | bytes _ => exact h.elim
        | ref _ => exact h.elim
        | int plain =>
          cases l1 with
          | cons _ _ => exact h.elim
          | nil => exact ⟨_, _, rfl, h⟩
theorem movesInit_ok (D : Ad) : ∀ args H P, movesInitS D.cM args H P → args.length = 2 ∧ m_movesInit D (startLoc args 0) H (fun fl _ H' => match fl with | .ret v => P v H' | .next => P .none H' | _ => False) := by
  intro args H P h
  obtain ⟨a, p, rfl, h⟩ := movesInitS_inv h
  · unfold movesInitS at h
    (try dsimp only at h)
    obtain ⟨d, h1, h2, hP⟩ := h
    refine ⟨rfl, ?_⟩
    have ne : a ≠ d := ne_of_obj h1 h2 (by simp)
    unfold m_movesInit
    refine r_seq ?_
    try simp (disch := omega) only [k_next, l_z, l_s, sAssign, tAttr, startLoc, List.map_cons, List.map_nil, List.replicate, List.cons_append, List.nil_append]
    rw [e_setAttr h1 h2 (by simp)]
    refine r_seq ?_
    try simp (disch := omega) only [k_next, e_nil, l_z, sAssign, tAttr, mList, aNil]
    refine ⟨by decide, fun l hl => ?_⟩
    have e0 : putA "plain" (.int p) [] = ([("plain", .int p)] : List (Str × AV)) := rfl
    rw [e0] at hl ⊢
    have hl' : H l = none := by
      by_cases q : l = d
      · subst q; rw [upd_self] at hl; cases hl
      · rw [upd_ne _ _ q] at hl; exact hl
    have nd : d ≠ l := fun q => by rw [← q, h2] at hl'; cases hl'
    have na : a ≠ l := fun q => by rw [← q, h1] at hl'; cases hl'
    rw [e_setAttr (dx := d) (fs := [("plain", .int p)]) (by rw [upd_ne _ _ na, upd_ne _ _ ne]; exact h1) (by rw [upd_ne _ _ nd, upd_self]) (by simp)]
    exact hP l hl'

noncomputable def pruneN (b : Int) : List Row → Nat
  | [] => 0
  | r :: rest => if b ≤ r.spot then pruneN b rest else rest.length + 1
noncomputable def pruneS (cM : Addr) : Spec := fun args H P => match args with
  | [.ref a, .int b] => ∃ d plain l ra rs, MovesAt cM H a d plain l ∧ H l = some (.list (ra.map .ref)) ∧ RowsT H ra rs ∧ l ∉ ra ∧ rs.length < LIM ∧ P .none (upd H l (.list ((ra.take (pruneN b rs.reverse)).map .ref)))
  | _ => False
theorem pruneN_le (b : Int) : ∀ rs, pruneN b rs ≤ rs.length
  | [] => Nat.le_refl _
  | r :: rest => by
    unfold pruneN
    split
    · exact Nat.le_succ_of_le (pruneN_le b rest)
    · exact Nat.le_refl _
theorem prune_loop (D : Ad) (a d l : Addr) (plain b : Int) (P : PS) : ∀ (n : Nat) (ra : List Addr) (rs : List Row) (H : AHeap), rs.length = n → MovesAt D.cM H a d plain l → H l = some (.list (ra.map .ref)) → RowsT H ra rs → l ∉ ra → rs.length < LIM →
    P .next [some (.ref a), some (.int b)] (upd H l (.list ((ra.take (pruneN b rs.reverse)).map .ref))) →
    whileW (tAnd (tCmp .Gt (mCall lenS (aCons (mAttr D.cM "rows" (mLoc 0)) aNil)) (mConst (.int 0))) (tAnd (tCmp .GtE (mSub (mSub (mAttr D.cM "rows" (mLoc 0)) (mUn .USub (mConst (.int 1)))) (mConst (.int 1))) (mLoc 1)) tTrue)) (sSeq (sExpr (mLM .pop (mAttr D.cM "rows" (mLoc 0)) aNil)) sNil) (n + 1) [some (.ref a), some (.int b)] H P := by
  intro n
  induction n with
  | zero =>
    intro ra rs H hn M hl R hd hz hP
    have hrs : rs = [] := List.length_eq_zero_iff.mp hn
    subst hrs
    cases R
    rw [e_while]
    try simp (disch := omega) only [e_tAnd, l_z, l_s, u_Neg, mConst, mUn, tCmp, mCall, mAttr, mSub, aCons, aNil, tTrue, if_true, Bool.false_eq_true, if_false]
    rw [M.rows, e_len hl (by simp [LIM])]
    try simp (disch := omega) only [c_Gt, decide_eq_true_eq, List.map_nil]
    rw [if_neg (by simp)]
    simp only [List.take_nil] at hP
    rw [upd_id hl] at hP
    exact hP
  | succ n ih =>
    intro ra rs H hn M hl R hd hz hP
    obtain ⟨rs', r, rfl⟩ : ∃ rs' r, rs = rs' ++ [r] := by
      rcases List.eq_nil_or_concat rs with h | ⟨x, y, h⟩
      · subst h; cases hn
      · exact ⟨x, y, by simpa using h⟩
    obtain ⟨ra', xs, rfl, R1, R2⟩ := R.split
    cases R2 with | @cons x _ _ _ hx R3 =>
    cases R3
    have hl1 := R1.length
    have hlen : (rs' ++ [r]).length = rs'.length + 1 := by simp
    rw [hlen] at hn hz
    rw [e_while]
    try simp (disch := omega) only [e_tAnd, l_z, l_s, u_Neg, mConst, mUn, tCmp, mCall, mAttr, mSub, aCons, aNil, tTrue, if_true, Bool.false_eq_true, if_false]
    have hll : (ra'.map AV.ref ++ [AV.ref x]).length = rs'.length + 1 := by simp [hl1]
    have hl' : H l = some (.list (ra'.map AV.ref ++ [AV.ref x])) := by rw [hl, List.map_append]; rfl
    rw [M.rows, e_len hl' (by rw [hll]; omega)]
    try simp (disch := omega) only [c_Gt, decide_eq_true_eq]
    rw [if_pos (by rw [hll]; omega), M.rows]
    have ei : idxOf (ra'.map AV.ref ++ [AV.ref x]).length (-1) = rs'.length := by rw [hll]; unfold idxOf; rw [if_pos (by decide)]; omega
    rw [e_sub (v := .ref x) (.inl hl') (by decide) (by rw [ei]; omega) (by rw [ei, Int.toNat_natCast, List.getElem?_append_right (by simp [hl1])]; simp [hl1])]
    rw [e_sub (v := .int r.spot) (.inl hx) (by decide) (by show (0:Int) ≤ 1; decide) rfl]
    try simp (disch := omega) only [c_Ge, decide_eq_true_eq]
    rw [List.reverse_append, List.reverse_singleton, List.singleton_append, pruneN] at hP
    by_cases q : b ≤ r.spot
    · rw [if_pos q]
      rw [if_pos q] at hP
      refine r_seq ?_
      try simp (disch := omega) only [k_next, e_nil, w_next, l_z, e_lm, sExpr, mAttr]
      rw [M.rows, e_lmH hl']
      try simp (disch := omega) only [aNil]
      rw [e_pop hl' (by simp [hl1]; omega)]
      have hk : pruneN b rs'.reverse ≤ ra'.length := by
        have := pruneN_le b rs'.reverse
        rw [List.length_reverse] at this; omega
      have nl : l ≠ a := ne_of_obj hl M.1 (by simp)
      have nd : l ≠ d := ne_of_obj hl M.2 (by simp)
      have hxl : l ∉ ra' := fun m => hd (List.mem_append_left _ m)
      have K : Kp [l] H (upd H l (.list (ra'.map AV.ref))) := Kp.upd _ (by simp)
      refine ih ra' rs' _ (by omega) (M.kp K (by simp [Ne.symm nl]) (by simp [Ne.symm nd])) (upd_self _ _ _) (R1.kp K fun y hy => by simp; rintro rfl; exact hxl hy) hxl (by omega) ?_
      rw [upd_upd]
      rw [List.take_append_of_le_length hk] at hP
      exact hP
    · rw [if_neg q]
      rw [if_neg q] at hP
      rw [List.length_reverse, ← hl1, List.take_of_length_le (by simp), upd_id hl] at hP
      exact hP
theorem pruneS_inv {cM : Addr} {args : List AV} {H : AHeap} {P : AV → AHeap → Prop} (h : pruneS cM args H P) : ∃ a b, args = [.ref a, .int b] ∧ pruneS cM [.ref a, .int b] H P := by
  cases args with
  | nil => exact h.elim
  | cons a0 l0 =>
    cases a0 with
    | none => exact h.elim
    | bool _ => exact h.elim
    | int _ => exact h.elim
    | bytes _ => exact h.elim
    | ref a =>
      cases l0 with
      | nil => exact h.elim
      | cons a1 l1 =>
        cases a1 with
        | none => exact h.elim
        | bool _ => exact h.elim
        | bytes _ => exact h.elim
        | ref _ => exact h.elim
        | int b =>
          cases l1 with
          | cons _ _ => exact h.elim
          | nil => exact ⟨_, _, rfl, h⟩
theorem prune_ok (D : Ad) : ∀ args H P, pruneS D.cM args H P → args.length = 2 ∧ m_prune D (startLoc args 0) H (fun fl _ H' => match fl with | .ret v => P v H' | .next => P .none H' | _ => False) := by
  intro args H P h
  obtain ⟨a, b, rfl, h⟩ := pruneS_inv h
  · unfold pruneS at h
    (try dsimp only at h)
    obtain ⟨d, plain, l, ra, rs, M, hl, R, hd, hz, hP⟩ := h
    refine ⟨rfl, ?_⟩
    unfold m_prune
    refine r_seq ⟨rs.length + 1, ?_⟩
    refine prune_loop D a d l plain b _ _ ra rs H rfl M hl R hd hz ?_
    try simp (disch := omega) only [k_next, e_nil]
    exact hP
end
section
set_option genSizeOf false
set_option genSizeOfSpec false
set_option maxRecDepth 100000
set_option autoImplicit false
noncomputable def hitT (size : Int) : List Row → Int → Option (Nat × Int)
  | [], _ => none
  | r :: rest, seen =>
    if r.size = size then
      if (r.st = 4 ∧ seen ≠ 1) ∨ (r.st = 5 ∧ seen ≠ 2) then some (rest.length, 0)
      else if (r.st = 0 ∨ r.st = 1) ∧ seen ≠ 1 then some (rest.length, 5)
      else if (r.st = 0 ∨ r.st = 2) ∧ seen ≠ 2 then some (rest.length, 10)
      else hitT size rest seen
    else if r.st = 4 then (if seen = 2 then none else hitT size rest 1)
    else if r.st = 5 then (if seen = 1 then none else hitT size rest 2)
    else hitT size rest seen
theorem hitT_cons (size : Int) (r : Row) (rest : List Row) (seen : Int) : hitT size (r :: rest) seen = (if r.size = size then
      if (r.st = 4 ∧ seen ≠ 1) ∨ (r.st = 5 ∧ seen ≠ 2) then some (rest.length, 0)
      else if (r.st = 0 ∨ r.st = 1) ∧ seen ≠ 1 then some (rest.length, 5)
      else if (r.st = 0 ∨ r.st = 2) ∧ seen ≠ 2 then some (rest.length, 10)
      else hitT size rest seen
    else if r.st = 4 then (if seen = 2 then none else hitT size rest 1)
    else if r.st = 5 then (if seen = 1 then none else hitT size rest 2)
    else hitT size rest seen) := rfl
noncomputable def hitRow (r : Row) (p : Int) : Row := if p = 0 then r else { r with st := if p = 5 then 4 else 5 }
noncomputable def hitOct (oct : List Int) (r : Row) (p : Int) : List Int := if p = 0 then oct else oct.set r.spot (oct.getD r.spot 0 + p)
noncomputable def hitH (H : AHeap) (o : Addr) (oct : List Int) (x : Addr) (r : Row) (p : Int) : AHeap := if p = 0 then H else upd (upd H o (.list (intsV (hitOct oct r p)))) x (.list (rowV (hitRow r p)))
noncomputable def hitQ (H : AHeap) (o : Addr) (oct : List Int) (ra : List Addr) (rs : List Row) (Q : Int → AHeap → Prop) : Option (Nat × Int) → Prop
  | none => Q (-1) H
  | some (k, p) => ∀ r x, rs[k]? = some r → ra[k]? = some x → Q k (hitH H o oct x r p)
noncomputable def hitS (cM : Addr) : Spec := fun args H P => match args with
  | [.ref a, .ref o, .int size] => ∃ d plain l ra rs oct, MovesAt cM H a d plain l ∧ H l = some (.list (ra.map .ref)) ∧ RowsT H ra rs ∧ (o :: l :: ra).Nodup ∧ H o = some (.list (intsV oct)) ∧ (∀ r ∈ rs, r.spot < oct.length) ∧ oct.length < LIM ∧ rs.length < LIM ∧
      hitQ H o oct ra rs (fun i H => P (.int i) H) (hitT size rs.reverse 0)
  | _ => False
theorem hitT_lt (size : Int) : ∀ (rs : List Row) (seen : Int) (k : Nat) (p : Int), hitT size rs seen = some (k, p) → k < rs.length := by
  intro rs
  induction rs with
  | nil => intro seen k p h; cases h
  | cons r rest ih =>
    intro seen k p h
    unfold hitT at h
    have := ih
    simp only [List.length_cons]
    repeat' split at h
    all_goals first
      | (injection h with h; injection h with h1 h2; omega)
      | (have := ih _ _ _ h; omega)
      | cases h
noncomputable def hitB (D : Ad) : MS := (sSeq (sAssign (tTup [(tName 5), (tName 6), (tName 7)]) (mSub (mAttr D.cM "rows" (mLoc 0)) (mLoc 4)))
  (sSeq (sIf (tCmp .Eq (mLoc 5) (mLoc 2))
  (sSeq (sIf (tOr (tAnd (tCmp .Eq (mLoc 7) (mConst (.int 4))) (tAnd (tCmp .NotEq (mLoc 3) (mConst (.int 1))) tTrue)) (tOr (tAnd (tCmp .Eq (mLoc 7) (mConst (.int 5))) (tAnd (tCmp .NotEq (mLoc 3) (mConst (.int 2))) tTrue)) tFalse))
  (sSeq (sRet (mLoc 4))
  sNil)
  sNil)
  (sSeq (sIf (tAnd (tOr (tCmp .Eq (mLoc 7) (mConst (.int 0))) (tOr (tCmp .Eq (mLoc 7) (mConst (.int 1))) tFalse)) (tAnd (tCmp .NotEq (mLoc 3) (mConst (.int 1))) tTrue))
  (sSeq (sAugSub (mLoc 1) (mLoc 6) (mConst (.int 5)))
  (sSeq (sAssign (tSub (mSub (mAttr D.cM "rows" (mLoc 0)) (mLoc 4)) (mConst (.int 2))) (mConst (.int 4)))
  (sSeq (sRet (mLoc 4))
  sNil)))
  sNil)
  (sSeq (sIf (tAnd (tOr (tCmp .Eq (mLoc 7) (mConst (.int 0))) (tOr (tCmp .Eq (mLoc 7) (mConst (.int 2))) tFalse)) (tAnd (tCmp .NotEq (mLoc 3) (mConst (.int 2))) tTrue))
  (sSeq (sAugSub (mLoc 1) (mLoc 6) (mConst (.int 10)))
  (sSeq (sAssign (tSub (mSub (mAttr D.cM "rows" (mLoc 0)) (mLoc 4)) (mConst (.int 2))) (mConst (.int 5)))
  (sSeq (sRet (mLoc 4))
  sNil)))
  sNil)
  sNil)))
  (sSeq (sIf (tCmp .Eq (mLoc 7) (mConst (.int 4)))
  (sSeq (sIf (tCmp .Eq (mLoc 3) (mConst (.int 2)))
  (sSeq (sRet (mUn .USub (mConst (.int 1))))
  sNil)
  sNil)
  (sSeq (sAssign (tName 3) (mConst (.int 1)))
  sNil))
  (sSeq (sIf (tCmp .Eq (mLoc 7) (mConst (.int 5)))
  (sSeq (sIf (tCmp .Eq (mLoc 3) (mConst (.int 1)))
  (sSeq (sRet (mUn .USub (mConst (.int 1))))
  sNil)
  sNil)
  (sSeq (sAssign (tName 3) (mConst (.int 2)))
  sNil))
  sNil)
  sNil))
  sNil))
  sNil))
noncomputable def hitN (size seen : Int) (r : Row) (K : Int → Prop) (F : Int → Prop) (N : Prop) : Prop :=
    if r.size = size then
      if (r.st = 4 ∧ seen ≠ 1) ∨ (r.st = 5 ∧ seen ≠ 2) then F 0
      else if (r.st = 0 ∨ r.st = 1) ∧ seen ≠ 1 then F 5
      else if (r.st = 0 ∨ r.st = 2) ∧ seen ≠ 2 then F 10
      else K seen
    else if r.st = 4 then (if seen = 2 then N else K 1)
    else if r.st = 5 then (if seen = 1 then N else K 2)
    else K seen
theorem hit_body (D : Ad) (a d l o x : Addr) (plain size : Int) (ra : List Addr) (r : Row) (oct : List Int) (H : AHeap) (K : PS) (M : MovesAt D.cM H a d plain l) (hl : H l = some (.list (ra.map .ref))) (n : Nat) (hx : ra[n]? = some x) (hxv : H x = some (.list (rowV r)))
    (hd : (o :: l :: ra).Nodup) (ho : H o = some (.list (intsV oct))) (hs : r.spot < oct.length) (hz : oct.length < LIM) (hz2 : ra.length < LIM) (seen : Int) (x5 x6 x7 : Option AV)
    (hK : hitN size seen r (fun s => ∀ x5 x6 x7, K .next [some (.ref a), some (.ref o), some (.int size), some (.int s), some (.int n), x5, x6, x7] H) (fun p => ∀ ρ, K (.ret (.int n)) ρ (hitH H o oct x r p)) (∀ ρ, K (.ret (.int (-1))) ρ H)) :
    hitB D [some (.ref a), some (.ref o), some (.int size), some (.int seen), some (.int n), x5, x6, x7] H K := by
  have hn : n < ra.length := (List.getElem?_eq_some_iff.mp hx).1
  have hsub : ∀ (H' : AHeap) (P : AV → AHeap → Prop), H' l = some (.list (ra.map .ref)) → subS (.ref l) (.int n) H' P = P (.ref x) H' := fun H' P h' => by
    have ei : idxOf (ra.map AV.ref).length (n : Int) = n := by unfold idxOf; rw [if_neg (by omega)]
    exact e_sub (.inl h') (by unfold LIM at hz2; omega) (by rw [ei]; omega) (by rw [ei, Int.toNat_natCast, List.getElem?_map, hx]; rfl) P
  have patch : ∀ (p : Int) (K : PS), (p = 5 ∨ p = 10) → (∀ ρ, K (.ret (.int n)) ρ (hitH H o oct x r p)) →
      sSeq (sAugSub (mLoc 1) (mLoc 6) (mConst (.int p))) (sSeq (sAssign (tSub (mSub (mAttr D.cM "rows" (mLoc 0)) (mLoc 4)) (mConst (.int 2))) (mConst (.int (if p = 5 then 4 else 5)))) (sSeq (sRet (mLoc 4)) sNil))
        [some (.ref a), some (.ref o), some (.int size), some (.int seen), some (.int n), some (.int r.size), some (.int r.spot), some (.int r.st)] H K := by
    intro p K hp hK
    refine r_seq ?_
    unfold sAugSub
    try simp (disch := omega) only [k_next, l_z, l_s, mConst]
    have ei : idxOf (intsV oct).length (r.spot : Int) = r.spot := by unfold idxOf; rw [if_neg (by omega)]
    have hv : (intsV oct)[r.spot]? = some (.int (oct.getD r.spot 0)) := by
      unfold intsV
      rw [List.getElem?_map, List.getD_eq_getElem?_getD, List.getElem?_eq_getElem hs]; rfl
    rw [e_sub (v := .int (oct.getD r.spot 0)) (.inl ho) (by unfold LIM at hz; omega) (by rw [ei]; omega) (by rw [ei, Int.toNat_natCast]; exact hv)]
    dsimp only
    rw [e_set ho (by rw [intsV_length]; omega) (by rw [intsV_length]; omega)]
    have e2 : (intsV oct).set (r.spot : Int).toNat (.int (oct.getD r.spot 0 + p)) = intsV (hitOct oct r p) := by
      unfold hitOct intsV
      rw [if_neg (by omega), Int.toNat_natCast, List.map_set]
    rw [e2]
    refine r_seq ?_
    try simp (disch := omega) only [k_next, l_z, l_s, sAssign, tSub, mConst, mAttr, mSub]
    have K1 : Kp [o] H (upd H o (.list (intsV (hitOct oct r p)))) := Kp.upd _ (by simp)
    rw [List.nodup_cons, List.nodup_cons] at hd
    have nol : l ≠ o := fun e => hd.1 (by rw [e]; exact .head _)
    have nox : x ≠ o := fun e => hd.1 (by rw [← e]; exact .tail _ (List.mem_of_getElem? hx))
    have nao : a ∉ [o] := by simp; exact ne_of_obj M.1 ho (by simp)
    have ndo : d ∉ [o] := by simp; exact ne_of_obj M.2 ho (by simp)
    rw [(M.kp K1 nao ndo).rows, hsub _ _ (K1 _ _ hl (by simp [nol])), e_set (K1 _ _ hxv (by simp [nox])) ⟨by decide, by show (2 : Int) < 3; decide⟩ (by show 3 ≤ 1000000; decide)]
    refine r_seq ?_
    try simp (disch := omega) only [k_ret, l_z, l_s, sRet]
    have := hK [some (.ref a), some (.ref o), some (.int size), some (.int seen), some (.int n), some (.int r.size), some (.int r.spot), some (.int r.st)]
    unfold hitH at this
    rw [if_neg (by omega)] at this
    have e3 : (rowV r).set (2 : Int).toNat (.int (if p = 5 then 4 else 5)) = rowV (hitRow r p) := by
      rcases hp with rfl | rfl <;> rfl
    rw [e3]; exact this
  unfold hitB
  refine r_seq ?_
  try simp (disch := omega) only [k_next, l_z, l_s, sAssign, tt3, mAttr, mSub]
  rw [M.rows, hsub _ _ hl, e_seqL (n := 3) (.inl hxv) rfl]
  unfold rowV
  try simp (disch := omega) only [tName, te_c, te_n, List.set_cons_zero, List.set_cons_succ]
  refine r_seq ?_
  try simp (disch := omega) only [e_sIf, l_z, l_s, c_Eq, tCmp, decide_eq_true_eq]
  unfold hitN at hK
  by_cases q : r.size = size
  · rw [if_pos q] at hK ⊢
    refine r_seq ?_
    have T1 : ∀ P, (tOr (tAnd (tCmp .Eq (mLoc 7) (mConst (.int 4))) (tAnd (tCmp .NotEq (mLoc 3) (mConst (.int 1))) tTrue)) (tOr (tAnd (tCmp .Eq (mLoc 7) (mConst (.int 5))) (tAnd (tCmp .NotEq (mLoc 3) (mConst (.int 2))) tTrue)) tFalse)) [some (.ref a), some (.ref o), some (.int size), some (.int seen), some (.int n), some (.int r.size), some (.int r.spot), some (.int r.st)] H P = P (decide ((r.st = 4 ∧ seen ≠ 1) ∨ (r.st = 5 ∧ seen ≠ 2))) H := by
      intro P
      try simp (disch := omega) only [e_tAnd, e_tOr, l_z, l_s, c_Eq, c_Ne, mConst, tCmp, tTrue, tFalse, decide_eq_true_eq, if_true, Bool.false_eq_true, if_false]
      by_cases h1 : r.st = 4 <;> by_cases h2 : seen = 1 <;> by_cases h3 : r.st = 5 <;> by_cases h4 : seen = 2 <;> simp [h1, h2, h3, h4]
    have T2 : ∀ P, (tAnd (tOr (tCmp .Eq (mLoc 7) (mConst (.int 0))) (tOr (tCmp .Eq (mLoc 7) (mConst (.int 1))) tFalse)) (tAnd (tCmp .NotEq (mLoc 3) (mConst (.int 1))) tTrue)) [some (.ref a), some (.ref o), some (.int size), some (.int seen), some (.int n), some (.int r.size), some (.int r.spot), some (.int r.st)] H P = P (decide ((r.st = 0 ∨ r.st = 1) ∧ seen ≠ 1)) H := by
      intro P
      try simp (disch := omega) only [e_tAnd, e_tOr, l_z, l_s, c_Eq, c_Ne, mConst, tCmp, tTrue, tFalse, decide_eq_true_eq, if_true, Bool.false_eq_true, if_false]
      by_cases h1 : r.st = 0 <;> by_cases h2 : seen = 1 <;> by_cases h3 : r.st = 1 <;> simp [h1, h2, h3]
    have T3 : ∀ P, (tAnd (tOr (tCmp .Eq (mLoc 7) (mConst (.int 0))) (tOr (tCmp .Eq (mLoc 7) (mConst (.int 2))) tFalse)) (tAnd (tCmp .NotEq (mLoc 3) (mConst (.int 2))) tTrue)) [some (.ref a), some (.ref o), some (.int size), some (.int seen), some (.int n), some (.int r.size), some (.int r.spot), some (.int r.st)] H P = P (decide ((r.st = 0 ∨ r.st = 2) ∧ seen ≠ 2)) H := by
      intro P
      try simp (disch := omega) only [e_tAnd, e_tOr, l_z, l_s, c_Eq, c_Ne, mConst, tCmp, tTrue, tFalse, decide_eq_true_eq, if_true, Bool.false_eq_true, if_false]
      by_cases h1 : r.st = 0 <;> by_cases h2 : seen = 2 <;> by_cases h3 : r.st = 2 <;> simp [h1, h2, h3]
    rw [e_sIf, T1]
    try simp (disch := omega) only [k_next, e_nil, decide_eq_true_eq]
    by_cases q1 : (r.st = 4 ∧ seen ≠ 1) ∨ (r.st = 5 ∧ seen ≠ 2)
    · rw [if_pos q1] at hK ⊢
      refine r_seq ?_
      try simp (disch := omega) only [k_ret, l_z, l_s, sRet]
      have := hK [some (.ref a), some (.ref o), some (.int size), some (.int seen), some (.int n), some (.int r.size), some (.int r.spot), some (.int r.st)]
      unfold hitH at this
      rw [if_pos rfl] at this
      exact this
    rw [if_neg q1] at hK ⊢
    refine r_seq ?_
    rw [e_sIf, T2]
    try simp (disch := omega) only [k_next, e_nil, decide_eq_true_eq]
    by_cases q2 : (r.st = 0 ∨ r.st = 1) ∧ seen ≠ 1
    · rw [if_pos q2] at hK ⊢
      exact patch 5 _ (.inl rfl) (fun ρ => hK ρ)
    rw [if_neg q2] at hK ⊢
    refine r_seq ?_
    rw [e_sIf, T3]
    try simp (disch := omega) only [k_next, e_nil, decide_eq_true_eq]
    by_cases q3 : (r.st = 0 ∨ r.st = 2) ∧ seen ≠ 2
    · rw [if_pos q3] at hK ⊢
      exact patch 10 _ (.inr rfl) (fun ρ => hK ρ)
    rw [if_neg q3] at hK ⊢
    exact hK _ _ _
  · rw [if_neg q] at hK ⊢
    refine r_seq ?_
    try simp (disch := omega) only [e_sIf, l_z, l_s, c_Eq, mConst, tCmp, decide_eq_true_eq]
    by_cases q1 : r.st = 4
    · rw [if_pos q1] at hK ⊢
      refine r_seq ?_
      try simp (disch := omega) only [k_next, e_nil, e_sIf, l_z, l_s, c_Eq, mConst, tCmp, decide_eq_true_eq]
      by_cases q2 : seen = 2
      · rw [if_pos q2] at hK ⊢
        refine r_seq ?_
        try simp (disch := omega) only [k_ret, u_Neg, sRet, mConst, mUn]
        exact hK _
      · rw [if_neg q2] at hK ⊢
        refine r_seq ?_
        try simp (disch := omega) only [k_next, e_nil, sAssign, tName, List.set_cons_zero, List.set_cons_succ, mConst]
        exact hK _ _ _
    rw [if_neg q1] at hK ⊢
    refine r_seq ?_
    try simp (disch := omega) only [k_next, e_nil, e_sIf, l_z, l_s, c_Eq, mConst, tCmp, decide_eq_true_eq]
    by_cases q2 : r.st = 5
    · rw [if_pos q2] at hK ⊢
      refine r_seq ?_
      try simp (disch := omega) only [k_next, e_nil, e_sIf, l_z, l_s, c_Eq, mConst, tCmp, decide_eq_true_eq]
      by_cases q3 : seen = 1
      · rw [if_pos q3] at hK ⊢
        refine r_seq ?_
        try simp (disch := omega) only [k_ret, u_Neg, sRet, mConst, mUn]
        exact hK _
      · rw [if_neg q3] at hK ⊢
        refine r_seq ?_
        try simp (disch := omega) only [k_next, e_nil, sAssign, tName, List.set_cons_zero, List.set_cons_succ, mConst]
        exact hK _ _ _
    rw [if_neg q2] at hK ⊢
    exact hK _ _ _
theorem hit_loop (D : Ad) (a d l o : Addr) (plain size : Int) (ra : List Addr) (rs : List Row) (oct : List Int) (H : AHeap) (P : PS) (M : MovesAt D.cM H a d plain l) (hl : H l = some (.list (ra.map .ref))) (R : RowsT H ra rs) (hd : (o :: l :: ra).Nodup) (ho : H o = some (.list (intsV oct)))
    (hs : ∀ r ∈ rs, r.spot < oct.length) (hz : oct.length < LIM) (hz2 : rs.length < LIM) :
    ∀ (n : Nat) (seen : Int) (x4 x5 x6 x7 : Option AV), n ≤ rs.length →
      hitQ H o oct ra rs (fun i H => ∀ ρ, P (.ret (.int i)) ρ H) (hitT size (rs.take n).reverse seen) → (hitT size (rs.take n).reverse seen = none → ∀ x3 x4 x5 x6 x7, P .next [some (.ref a), some (.ref o), some (.int size), x3, x4, x5, x6, x7] H) →
      forR (tName 4) (hitB D) (downList (n - 1) n) [some (.ref a), some (.ref o), some (.int size), some (.int seen), x4, x5, x6, x7] H P := by
  intro n
  induction n with
  | zero =>
    intro seen x4 x5 x6 x7 hn hQ hN
    exact hN (by rw [List.take_zero]; rfl) _ _ _ _ _
  | succ n ih =>
    intro seen x4 x5 x6 x7 hn hQ hN
    obtain ⟨r, hr⟩ : ∃ r, rs[n]? = some r := ⟨rs[n], List.getElem?_eq_getElem (by omega)⟩
    obtain ⟨x, hx, hxv⟩ := R.get hr
    have htk : (rs.take (n + 1)).reverse = r :: (rs.take n).reverse := by
      rw [List.take_add_one, hr]; simp
    have hlen : (rs.take n).reverse.length = n := by simp; omega
    rw [htk] at hQ hN
    have hra := R.length
    unfold downList forR
    have e : ((n + 1 : Nat) : Int) - 1 = n := by omega
    rw [e]
    try simp (disch := omega) only [tName, List.set_cons_zero, List.set_cons_succ]
    refine hit_body D a d l o x plain size ra r oct H _ M hl n hx hxv hd ho (hs r (List.mem_of_getElem? hr)) hz (by omega) seen x5 x6 x7 ?_
    have kk : ∀ s, hitT size (r :: (rs.take n).reverse) seen = hitT size (rs.take n).reverse s → ∀ x5 x6 x7, afterTurn (fun ρ H => forR (tName 4) (hitB D) (downList (n - 1) n) ρ H P) P .next [some (.ref a), some (.ref o), some (.int size), some (.int s), some (.int n), x5, x6, x7] H := by
      intro s hs x5 x6 x7
      rw [hs] at hQ hN
      exact ih s _ _ _ _ (by omega) hQ hN
    have ff : ∀ p, hitT size (r :: (rs.take n).reverse) seen = some (n, p) → ∀ ρ, afterTurn (fun ρ H => forR (tName 4) (hitB D) (downList (n - 1) n) ρ H P) P (.ret (.int n)) ρ (hitH H o oct x r p) := by
      intro p hp ρ
      rw [hp] at hQ
      exact hQ r x hr hx ρ
    have nn : hitT size (r :: (rs.take n).reverse) seen = none → ∀ ρ, afterTurn (fun ρ H => forR (tName 4) (hitB D) (downList (n - 1) n) ρ H P) P (.ret (.int (-1))) ρ H := by
      intro hp ρ
      rw [hp] at hQ
      exact hQ ρ
    simp only [hitT_cons] at kk ff nn
    unfold hitN
    rw [hlen] at kk ff nn
    by_cases q : r.size = size
    · simp only [if_pos q] at kk ff nn ⊢
      by_cases q1 : (r.st = 4 ∧ seen ≠ 1) ∨ (r.st = 5 ∧ seen ≠ 2)
      · rw [if_pos q1] at ff ⊢
        exact ff 0 rfl
      simp only [if_neg q1] at kk ff nn ⊢
      by_cases q2 : (r.st = 0 ∨ r.st = 1) ∧ seen ≠ 1
      · rw [if_pos q2] at ff ⊢
        exact ff 5 rfl
      simp only [if_neg q2] at kk ff nn ⊢
      by_cases q3 : (r.st = 0 ∨ r.st = 2) ∧ seen ≠ 2
      · rw [if_pos q3] at ff ⊢
        exact ff 10 rfl
      simp only [if_neg q3] at kk ff nn ⊢
      exact kk seen rfl
    · simp only [if_neg q] at kk ff nn ⊢
      by_cases q1 : r.st = 4
      · simp only [if_pos q1] at kk ff nn ⊢
        by_cases q2 : seen = 2
        · rw [if_pos q2] at nn ⊢; exact nn rfl
        · simp only [if_neg q2] at kk ⊢; exact kk 1 rfl
      simp only [if_neg q1] at kk ff nn ⊢
      by_cases q2 : r.st = 5
      · simp only [if_pos q2] at kk ff nn ⊢
        by_cases q3 : seen = 1
        · rw [if_pos q3] at nn ⊢; exact nn rfl
        · simp only [if_neg q3] at kk ⊢; exact kk 2 rfl
      simp only [if_neg q2] at kk ff nn ⊢
      exact kk seen rfl
theorem hitS_inv {cM : Addr} {args : List AV} {H : AHeap} {P : AV → AHeap → Prop} (h : hitS cM args H P) : ∃ a o size, args = [.ref a, .ref o, .int size] ∧ hitS cM [.ref a, .ref o, .int size] H P := by
  cases args with
  | nil => exact h.elim
  | cons a0 l0 =>
    cases a0 with
    | none => exact h.elim
    | bool _ => exact h.elim
    | int _ => exact h.elim
    | bytes _ => exact h.elim
    | ref a =>
      cases l0 with
      | nil => exact h.elim
      | cons a1 l1 =>
        cases a1 with
        | none => exact h.elim
        | bool _ => exact h.elim
        | int _ => exact h.elim
        | bytes _ => exact h.elim
        | ref o =>
          cases l1 with
          | nil => exact h.elim
          | cons a2 l2 =>
            cases a2 with
            | none => exact h.elim
            | bool _ => exact h.elim
            | bytes _ => exact h.elim
            | ref _ => exact h.elim
            | int size =>
              cases l2 with
              | cons _ _ => exact h.elim
              | nil => exact ⟨_, _, _, rfl, h⟩
theorem hit_ok (D : Ad) : ∀ args H P, hitS D.cM args H P → args.length = 3 ∧ m_hit D (startLoc args 5) H (fun fl _ H' => match fl with | .ret v => P v H' | .next => P .none H' | _ => False) := by
  intro args H P h
  obtain ⟨a, o, size, rfl, h⟩ := hitS_inv h
  · unfold hitS at h
    (try dsimp only at h)
    obtain ⟨d, plain, l, ra, rs, oct, M, hl, R, hd, ho, hs, hz, hz2, hQ⟩ := h
    refine ⟨rfl, ?_⟩
    have hra := R.length
    unfold m_hit
    refine r_seq ?_
    try simp (disch := omega) only [k_next, sAssign, tName, List.set_cons_zero, List.set_cons_succ, mConst, startLoc, List.map_cons, List.map_nil, List.replicate, List.cons_append, List.nil_append]
    refine r_seq ?_
    show sForR (tName 4) _ (hitB D) _ _ _
    try simp (disch := omega) only [l_z, u_Neg, sForR, mConst, mBin, mUn, mCall, mAttr, aCons, aNil, rangeS]
    have hll : (ra.map AV.ref).length = rs.length := by simp [hra]
    rw [M.rows, e_len hl (by rw [hll]; omega), hll]
    try simp (disch := omega) only [b_Sub, true_and]
    unfold LIM at hz2
    refine ⟨by omega, by omega, ?_⟩
    have e : ((rs.length : Int) - 1 + 1).toNat = rs.length := by omega
    rw [e]
    refine hit_loop D a d l o plain size ra rs oct H _ M hl R hd ho hs hz hz2 rs.length 0 none none none none (Nat.le_refl _) ?_ ?_
    · rw [List.take_length]
      revert hQ
      cases hitT size rs.reverse 0 with
      | none => intro hQ ρ; exact hQ
      | some kp => intro hQ r x h1 h2 ρ; exact hQ r x h1 h2
    · intro hN x3 x4 x5 x6 x7
      rw [List.take_length] at hN
      rw [hN] at hQ
      try simp (disch := omega) only [k_next]
      refine r_seq ?_
      try simp (disch := omega) only [k_ret, u_Neg, sRet, mConst, mUn]
      exact hQ
end
section
set_option genSizeOf false
set_option genSizeOfSpec false
set_option maxRecDepth 100000
set_option autoImplicit false
theorem pickL_from (vs : List AV) (k : Nat) (h : k ≤ vs.length) : pickL vs (some (k : Int)) none = vs.drop k := by
  unfold pickL
  have e : clipAt vs.length (k : Int) = k := (clip_nn _ _).trans (Nat.min_eq_left h)
  show List.take (vs.length - clipAt vs.length (k : Int)) (List.drop (clipAt vs.length (k : Int)) vs) = _
  rw [e, List.take_of_length_le (by rw [List.length_drop]; exact Nat.le_refl _)]
noncomputable def barR (u : Int) (r : Row) : Row := { r with st := barredP r.st u }
theorem e_barred (x y : Int) (H : AHeap) (P : AV → AHeap → Prop) : barredS [.int x, .int y] H P = P (.int (barredP x y)) H := rfl
noncomputable def barB (D : Ad) : MS := (sSeq (sAssign (tSub (mLoc 5) (mConst (.int 2))) (mCall D.barredS (aCons (mSub (mLoc 5) (mConst (.int 2))) (aCons (mLoc 4) aNil)))) sNil)
theorem barB_run (D : Ad) (ρ : Loc) (H : AHeap) (K : PS) : barB D ρ H K = sSeq (sAssign (tSub (mLoc 5) (mConst (.int 2))) (mCall D.barredS (aCons (mSub (mLoc 5) (mConst (.int 2))) (aCons (mLoc 4) aNil)))) sNil ρ H K := rfl
theorem bar_loop (D : Ad) (hD : D.barredS = barredS) (r0 r1 r2 r3 : Option AV) (u : Int) (nl : Addr) (vs : List AV) (P : PS) : ∀ (as : List Addr) (ys : List Row) (H : AHeap) (x : Option AV), H nl = some (.list vs) → RowsT H as ys → as.Nodup → nl ∉ as →
    (∀ H' x, Kp as H H' → RowsT H' as (ys.map (barR u)) → P .next [r0, r1, r2, r3, some (.int u), x] H') → forL (tName 5) (barB D) nl vs (as.map .ref) [r0, r1, r2, r3, some (.int u), x] H P := by
  intro as
  have hb : ∀ (x y : Int) (H : AHeap) (P : AV → AHeap → Prop), D.barredS [.int x, .int y] H P = P (.int (barredP x y)) H := fun x y H P => by rw [hD]; rfl
  induction as with
  | nil =>
    intro ys H x hn R hd hm hP
    cases R
    exact ⟨hn, hP _ _ (Kp.refl _ _) .nil⟩
  | cons a as ih =>
    intro ys H x hn R hd hm hP
    cases R with | @cons _ r _ rs hr R' =>
    rw [List.nodup_cons] at hd
    rw [List.map_cons]
    unfold forL
    refine ⟨hn, ?_⟩
    try simp (disch := omega) only [tName, List.set_cons_zero, List.set_cons_succ]
    rw [barB_run]
    refine r_seq ?_
    try simp (disch := omega) only [k_next, e_nil, t_next, l_z, l_s, sAssign, tSub, mConst, mCall, mSub, aCons, aNil]
    rw [e_sub (v := .int r.st) (.inl hr) (by decide) (by show (0 : Int) ≤ 2; decide) rfl]
    rw [hb, e_set hr ⟨by decide, by show (2 : Int) < 3; decide⟩ (by show 3 ≤ 1000000; decide)]
    have e3 : (rowV r).set (2 : Int).toNat (.int (barredP r.st u)) = rowV (barR u r) := rfl
    rw [e3]
    have nna : nl ≠ a := fun e => hm (by rw [e]; exact .head _)
    have K1 : Kp [a] H (upd H a (.list (rowV (barR u r)))) := Kp.upd _ (by simp)
    refine ih rs _ _ (K1 _ _ hn (by simp [nna])) (R'.kp K1 fun y hy => by simp; rintro rfl; exact hd.1 hy) hd.2 (fun m => hm (.tail _ m)) fun H' x' K' R2 => ?_
    refine hP H' x' ((K1.mono (by simp)).trans (K'.mono fun y hy => .tail _ hy)) (.cons ?_ R2)
    exact K' _ _ (upd_self _ _ _) hd.1

noncomputable def moveP (plain size : Int) (oct : List Int) (rs : List Row) : List Int × List Row :=
  match hitT size rs.reverse 0 with
  | none => (oct ++ signedB plain size, rs ++ [⟨size, oct.length, 0⟩])
  | some (k, p) =>
    match rs[k]? with
    | none => (oct, rs)
    | some r => (hitOct oct r p ++ [plain + (if (hitRow r p).st = 4 then 4 else 9)], rs.take k ++ [hitRow r p] ++ (rs.drop (k + 1)).map (barR (hitRow r p).st) ++ [⟨size, oct.length, (hitRow r p).st⟩])
noncomputable def moveS (cM : Addr) : Spec := fun args H P => match args with
  | [.ref a, .ref o, .int size] => ∃ d plain l ra rs oct, MovesAt cM H a d plain l ∧ H l = some (.list (ra.map .ref)) ∧ RowsT H ra rs ∧ (o :: l :: ra).Nodup ∧ H o = some (.list (intsV oct)) ∧ (∀ r ∈ rs, r.spot < oct.length) ∧ oct.length + 20 < LIM ∧ rs.length + 20 < LIM ∧
      ∀ H' n, H n = none → Kp (o :: l :: ra) H H' → H' o = some (.list (intsV (moveP plain size oct rs).1)) → H' l = some (.list ((ra ++ [n]).map .ref)) → RowsT H' (ra ++ [n]) (moveP plain size oct rs).2 → P .none H'
  | _ => False
theorem hitOct_length (oct : List Int) (r : Row) (p : Int) : (hitOct oct r p).length = oct.length := by unfold hitOct; split <;> simp
theorem hitH_facts {H : AHeap} {o l x : Addr} {ra : List Addr} {rs : List Row} {oct : List Int} {r : Row} {k : Nat} {p : Int} (R : RowsT H ra rs) (hd : (o :: l :: ra).Nodup) (ho : H o = some (.list (intsV oct))) (hk : rs[k]? = some r) (hx : ra[k]? = some x) :
    Kp (o :: ra) H (hitH H o oct x r p) ∧ hitH H o oct x r p o = some (.list (intsV (hitOct oct r p))) ∧ RowsT (hitH H o oct x r p) ra (rs.take k ++ hitRow r p :: rs.drop (k + 1)) := by
  have hlt : k < rs.length := (List.getElem?_eq_some_iff.mp hk).1
  have hrs : rs = rs.take k ++ r :: rs.drop (k + 1) := by
    have e : rs[k] = r := (List.getElem?_eq_some_iff.mp hk).2
    rw [← e, List.getElem_cons_drop, List.take_append_drop]
  have hxm := List.mem_of_getElem? hx
  rw [List.nodup_cons, List.nodup_cons] at hd
  unfold hitH hitOct hitRow
  by_cases q : p = 0
  · simp only [if_pos q]
    refine ⟨Kp.refl _ _, ho, ?_⟩
    rw [← hrs]; exact R
  · simp only [if_neg q]
    have nxo : x ≠ o := fun e => hd.1 (by rw [← e]; exact .tail _ hxm)
    refine ⟨(Kp.upd _ (.head _)).trans (Kp.upd _ (.tail _ hxm)), ?_, ?_⟩
    · rw [upd_ne _ _ (Ne.symm nxo), upd_self]
    · rw [hrs] at R
      obtain ⟨bs, cs, e, R1, R2⟩ := R.split
      cases R2 with | @cons y _ cs' _ hy R3 =>
      have hl1 := R1.length
      rw [List.length_take, Nat.min_eq_left (Nat.le_of_lt hlt)] at hl1
      have hyx : y = x := by
        rw [e, List.getElem?_append_right (by omega), hl1, Nat.sub_self] at hx
        simpa using hx
      subst hyx
      have hnd := hd.2.2
      rw [e, List.nodup_append] at hnd
      have hob : o ∉ bs ++ y :: cs' := fun m => hd.1 (.tail _ (by rw [e]; exact m))
      have K : ∀ (z : AObj) (w : AObj), Kp [o, y] H (upd (upd H o z) y w) := fun z w => (Kp.upd _ (by simp)).trans (Kp.upd _ (by simp))
      rw [e]
      refine (R1.kp (K _ _) fun b hb => ?_).append (.cons (upd_self _ _ _) (R3.kp (K _ _) fun b hb => ?_))
      · simp only [List.mem_cons, List.not_mem_nil, or_false, not_or]
        exact ⟨fun q => hob (by rw [← q]; exact List.mem_append_left _ hb), fun q => hnd.2.2 b hb y (.head _) q⟩
      · simp only [List.mem_cons, List.not_mem_nil, or_false, not_or]
        have := hnd.2.1
        rw [List.nodup_cons] at this
        exact ⟨fun q => hob (by rw [← q]; exact List.mem_append_right _ (.tail _ hb)), fun q => this.1 (by rw [← q]; exact hb)⟩
theorem fresh_of {X : List Addr} {H H' : AHeap} {n : Addr} (K : Kp X H H') (hX : ∀ a ∈ X, (H' a).isSome = true) (h : H' n = none) : H n = none := by
  cases q : H n with
  | none => rfl
  | some ob =>
    by_cases m : n ∈ X
    · have := hX n m; rw [h] at this; cases this
    · rw [K n ob q m] at h; cases h
theorem moveS_inv {cM : Addr} {args : List AV} {H : AHeap} {P : AV → AHeap → Prop} (h : moveS cM args H P) : ∃ a o size, args = [.ref a, .ref o, .int size] ∧ moveS cM [.ref a, .ref o, .int size] H P := by
  cases args with
  | nil => exact h.elim
  | cons a0 l0 =>
    cases a0 with
    | none => exact h.elim
    | bool _ => exact h.elim
    | int _ => exact h.elim
    | bytes _ => exact h.elim
    | ref a =>
      cases l0 with
      | nil => exact h.elim
      | cons a1 l1 =>
        cases a1 with
        | none => exact h.elim
        | bool _ => exact h.elim
        | int _ => exact h.elim
        | bytes _ => exact h.elim
        | ref o =>
          cases l1 with
          | nil => exact h.elim
          | cons a2 l2 =>
            cases a2 with
            | none => exact h.elim
            | bool _ => exact h.elim
            | bytes _ => exact h.elim
            | ref _ => exact h.elim
            | int size =>
              cases l2 with
              | cons _ _ => exact h.elim
              | nil => exact ⟨_, _, _, rfl, h⟩
theorem move_ok (D : Ad) (hD1 : D.hitS = hitS D.cM) (hD2 : D.put_signedS = put_signedS) (hD3 : D.barredS = barredS) : ∀ args H P, moveS D.cM args H P → args.length = 3 ∧ m_move D (startLoc args 3) H (fun fl _ H' => match fl with | .ret v => P v H' | .next => P .none H' | _ => False) := by
  intro args H P h
  obtain ⟨a, o, size, rfl, h⟩ := moveS_inv h
  · unfold moveS at h
    (try dsimp only at h)
    obtain ⟨d, plain, l, ra, rs, oct, M, hl, R, hd, ho, hs, hz, hz2, hQ⟩ := h
    refine ⟨rfl, ?_⟩
    have hra := R.length
    have hd' := hd
    rw [List.nodup_cons, List.nodup_cons] at hd'
    obtain ⟨hd1, hd2, hd3⟩ := hd'
    have nol : l ≠ o := fun e => hd1 (by rw [e]; exact .head _)
    have noa : a ≠ o := ne_of_obj M.1 ho (by simp)
    have nod : d ≠ o := ne_of_obj M.2 ho (by simp)
    have nla : a ≠ l := ne_of_obj M.1 hl (by simp)
    have nld : d ≠ l := ne_of_obj M.2 hl (by simp)
    have nra : a ∉ ra := fun m => by
      obtain ⟨i, hi⟩ := List.getElem?_of_mem m
      obtain ⟨r, hr⟩ : ∃ r, rs[i]? = some r := ⟨rs[i]'(by have := (List.getElem?_eq_some_iff.mp hi).1; omega), List.getElem?_eq_getElem _⟩
      obtain ⟨x, h1, h2⟩ := R.get hr
      rw [hi] at h1; cases h1
      exact ne_of_obj M.1 h2 (by simp) rfl
    have nrd : d ∉ ra := fun m => by
      obtain ⟨i, hi⟩ := List.getElem?_of_mem m
      obtain ⟨r, hr⟩ : ∃ r, rs[i]? = some r := ⟨rs[i]'(by have := (List.getElem?_eq_some_iff.mp hi).1; omega), List.getElem?_eq_getElem _⟩
      obtain ⟨x, h1, h2⟩ := R.get hr
      rw [hi] at h1; cases h1
      exact ne_of_obj M.2 h2 (by simp) rfl
    unfold LIM at hz hz2
    unfold m_move
    refine r_seq ?_
    try simp (disch := omega) only [k_next, l_z, e_meth, sAssign, tName, List.set_cons_zero, List.set_cons_succ, startLoc, List.map_cons, List.map_nil, List.replicate, List.cons_append, List.nil_append]
    rw [e_methH M.1 M.2 rfl]
    try simp (disch := omega) only [l_z, l_s, aCons, aNil]
    rw [hD1]
    refine ⟨d, plain, l, ra, rs, oct, M, hl, R, hd, ho, hs, by unfold LIM; omega, by unfold LIM; omega, ?_⟩
    unfold moveP at hQ
    cases hh : hitT size rs.reverse 0 with
    | none =>
      rw [hh] at hQ
      unfold hitQ
      refine r_seq ?_
      try simp (disch := omega) only [k_next, e_nil, e_sIf, l_z, l_s, c_Lt, mConst, tCmp, decide_eq_true_eq]
      rw [if_pos (by decide)]
      refine r_seq ?_
      try simp (disch := omega) only [k_next, l_z, e_lm, sExpr, mAttr]
      rw [M.rows, e_lmH hl]
      try simp (disch := omega) only [l_z, l_s, mConst, mCall, mList, aCons, aNil]
      rw [e_len ho (by rw [intsV_length]; unfold LIM; omega), intsV_length]
      refine ⟨by show 3 ≤ 1000; decide, fun n hn => ?_⟩
      have hnl : n ≠ l := fun e => by rw [e, hl] at hn; cases hn
      have hno : n ≠ o := fun e => by rw [e, ho] at hn; cases hn
      rw [e_append (vs := ra.map AV.ref) (by rw [upd_ne _ _ (Ne.symm hnl)]; exact hl) (by simp [hra]; unfold LIM; omega)]
      refine r_seq ?_
      try simp (disch := omega) only [k_next, l_z, l_s, sExpr, mCall, mAttr, aCons, aNil]
      have K1 : Kp [n, l] H (upd (upd H n (.list [.int size, .int oct.length, .int 0])) l (.list (ra.map AV.ref ++ [.ref n]))) := (Kp.upd _ (by simp)).trans (Kp.upd _ (by simp))
      have nan : a ≠ n := fun e => by rw [← e, M.1] at hn; cases hn
      have ndn : d ≠ n := fun e => by rw [← e, M.2] at hn; cases hn
      rw [(M.kp K1 (by simp [nan, nla]) (by simp [ndn, nld])).plain]
      rw [hD2]
      refine ⟨oct, K1 _ _ ho (by simp [Ne.symm hno, Ne.symm nol]), by unfold LIM; omega, ?_⟩
      refine r_seq ?_
      try simp (disch := omega) only [k_ret, sRet0]
      have hnr : n ∉ ra := fun m => by have := R.some n m; rw [hn] at this; cases this
      refine hQ _ n hn ?_ (upd_self _ _ _) ?_ ?_
      · exact (((Kp.new _ hn).trans (Kp.upd _ (by simp))).trans (Kp.upd _ (by simp)))
      · rw [upd_ne _ _ nol, upd_self, List.map_append]; rfl
      · refine (R.kp ((K1.mono (Y := o :: [n, l]) fun _ h => .tail _ h).trans (Kp.upd _ (.head _))) fun y hy => ?_).append (.cons ?_ .nil)
        · simp only [List.mem_cons, List.not_mem_nil, or_false, not_or]
          exact ⟨fun q => hd1 (by rw [← q]; exact .tail _ hy), fun q => hnr (by rw [← q]; exact hy), fun q => hd2 (by rw [← q]; exact hy)⟩
        · rw [upd_ne _ _ hno, upd_ne _ _ hnl, upd_self]; rfl
    | some kp =>
      obtain ⟨k, p⟩ := kp
      have hk : k < rs.length := by have := hitT_lt _ _ _ _ _ hh; rwa [List.length_reverse] at this
      obtain ⟨r, hr⟩ : ∃ r, rs[k]? = some r := ⟨rs[k], List.getElem?_eq_getElem hk⟩
      rw [hh] at hQ
      simp only [hr] at hQ
      intro r' x hr' hx
      rw [hr] at hr'; cases hr'
      obtain ⟨K1, f1, R1⟩ := hitH_facts (p := p) R hd ho hr hx
      generalize hitH H o oct x r p = H1 at K1 f1 R1
      have l1 : H1 l = some (.list (ra.map .ref)) := K1 _ _ hl (by simp [nol]; exact hd2)
      have M1 : MovesAt D.cM H1 a d plain l := M.kp K1 (by simp [noa]; exact nra) (by simp [nod]; exact nrd)
      generalize hr1 : hitRow r p = r1 at R1 hQ
      have hkra : k < ra.length := by omega
      refine r_seq ?_
      try simp (disch := omega) only [k_next, e_nil, e_sIf, l_z, l_s, c_Lt, mConst, tCmp, decide_eq_true_eq]
      rw [if_neg (by omega)]
      refine r_seq ?_
      try simp (disch := omega) only [k_next, l_z, l_s, sAssign, tName, List.set_cons_zero, List.set_cons_succ, mConst, mAttr, mSub]
      have ei : idxOf (ra.map AV.ref).length (k : Int) = k := by unfold idxOf; rw [if_neg (by omega)]
      have hxv : H1 x = some (.list (rowV r1)) := by
        obtain ⟨y, h1, h2⟩ := R1.get (i := k) (r := r1) (by rw [List.getElem?_append_right (by simp; omega)]; simp [Nat.min_eq_left (Nat.le_of_lt hk)])
        rw [hx] at h1; cases h1; exact h2
      rw [M1.rows, e_sub (v := .ref x) (.inl l1) (by omega) (by rw [ei]; omega) (by rw [ei, Int.toNat_natCast, List.getElem?_map, hx]; rfl), e_sub (v := .int r1.st) (.inl hxv) (by decide) (by show (0 : Int) ≤ 2; decide) rfl]
      refine r_seq ?_
      show sFor (tName 5) _ (barB D) _ _ _
      unfold sFor mSlice
      try simp (disch := omega) only [l_z, l_s, b_Add, mConst, mBin, mAttr]
      rw [M1.rows]
      simp only [partS, sliceS]
      refine ⟨_, l1, by simp; unfold LIM; omega, fun nl hnl => ?_⟩
      have hkk : ((k : Int) + 1) = ((k + 1 : Nat) : Int) := by omega
      rw [hkk, pickL_from _ _ (by simp; omega), ← List.map_drop]
      have hnl_l : nl ≠ l := fun e => by rw [e, l1] at hnl; cases hnl
      have hnl_o : nl ≠ o := fun e => by rw [e, f1] at hnl; cases hnl
      have hnl_r : nl ∉ ra := fun m => by have := R1.some nl m; rw [hnl] at this; cases this
      obtain ⟨bs, cs, eb, Ra, Rb⟩ := R1.split
      cases Rb with | @cons y _ cs' _ hy Rc =>
      have hlb := Ra.length
      rw [List.length_take, Nat.min_eq_left (Nat.le_of_lt hk)] at hlb
      have edrop : ra.drop (k + 1) = cs' := by
        rw [eb, List.drop_append, hlb]
        simp [hlb]
      rw [edrop]
      have K2 : Kp [nl] H1 (upd H1 nl (.list (cs'.map .ref))) := Kp.upd _ (by simp)
      have hcs : ∀ z ∈ cs', z ∈ ra := fun z hz => by rw [eb]; exact List.mem_append_right _ (.tail _ hz)
      have hnd : (bs ++ y :: cs').Nodup := by rw [← eb]; exact hd3
      rw [List.nodup_append, List.nodup_cons] at hnd
      refine ⟨_, upd_self _ _ _, ?_⟩
      refine bar_loop D hD3 _ _ _ _ r1.st nl _ _ cs' (rs.drop (k + 1)) _ none (upd_self _ _ _) (Rc.kp K2 fun z hz => by simp; rintro rfl; exact hnl_r (hcs _ hz)) hnd.2.1.2 (fun m => hnl_r (hcs _ m)) fun H2 x2 K3 R2 => ?_
      have l2 : H2 l = some (.list (ra.map .ref)) := K3 _ _ (K2 _ _ l1 (by simp [Ne.symm hnl_l])) (fun m => hd2 (hcs _ m))
      have o2 : H2 o = some (.list (intsV (hitOct oct r p))) := K3 _ _ (K2 _ _ f1 (by simp [Ne.symm hnl_o])) (fun m => hd1 (.tail _ (hcs _ m)))
      have M2 : MovesAt D.cM H2 a d plain l := (M1.kp K2 (by simp; rintro rfl; rw [M1.1] at hnl; cases hnl) (by simp; rintro rfl; rw [M1.2] at hnl; cases hnl)).kp K3 (fun m => nra (hcs _ m)) (fun m => nrd (hcs _ m))
      have hbs : ∀ z ∈ bs, z ∈ ra := fun z hz => by rw [eb]; exact List.mem_append_left _ hz
      have RR : RowsT H2 ra (rs.take k ++ r1 :: (rs.drop (k + 1)).map (barR r1.st)) := by
        rw [eb]
        refine RowsT.append ?_ (.cons ?_ R2)
        · exact (Ra.kp K2 fun z hz => by simp; rintro rfl; exact hnl_r (hbs _ hz)).kp K3 fun z hz m => hnd.2.2 z hz z (.tail _ m) rfl
        · refine K3 _ _ (K2 _ _ hy ?_) hnd.2.1.1
          simp; rintro rfl; exact hnl_r (by rw [eb]; simp)
      have K12 : Kp (o :: ra) H H2 := (K1.trans ((Kp.new _ hnl))).trans (K3.mono fun z hz => .tail _ (hcs z hz))
      clear K1 K2 K3 R1 Ra Rc R2 M1 l1 f1 hxv hy
      rw [k_next]
      refine r_seq ?_
      try simp (disch := omega) only [k_next, l_z, e_lm, sExpr, mAttr]
      rw [M2.rows, e_lmH l2]
      try simp (disch := omega) only [l_z, l_s, mCall, mList, aCons, aNil]
      rw [e_len o2 (by rw [intsV_length, hitOct_length]; unfold LIM; omega), intsV_length, hitOct_length]
      refine ⟨by show 3 ≤ 1000; decide, fun n hn => ?_⟩
      have hnl2 : n ≠ l := fun e => by rw [e, l2] at hn; cases hn
      have hno : n ≠ o := fun e => by rw [e, o2] at hn; cases hn
      have hnr : n ∉ ra := fun m => by have := RR.some n m; rw [hn] at this; cases this
      rw [e_append (vs := ra.map AV.ref) (by rw [upd_ne _ _ (Ne.symm hnl2)]; exact l2) (by simp [hra]; unfold LIM; omega)]
      refine r_seq ?_
      try simp (disch := omega) only [k_next, e_nil, l_z, l_s, e_lm, sExpr]
      have K3 : Kp [n, l] H2 (upd (upd H2 n (.list [.int size, .int oct.length, .int r1.st])) l (.list (ra.map AV.ref ++ [.ref n]))) := (Kp.upd _ (by simp)).trans (Kp.upd _ (by simp))
      have nan : a ≠ n := fun e => by rw [← e, M2.1] at hn; cases hn
      have ndn : d ≠ n := fun e => by rw [← e, M2.2] at hn; cases hn
      have M3 := M2.kp K3 (by simp [nan, nla]) (by simp [ndn, nld])
      have o3 := K3 _ _ o2 (by simp [Ne.symm hno, Ne.symm nol])
      rw [e_lmH o3]
      try simp (disch := omega) only [e_mIf, l_z, l_s, c_Eq, mConst, mBin, tCmp, mAttr, aCons, aNil, decide_eq_true_eq]
      rw [M3.plain]
      have hn0 : H n = none := fresh_of K12 (by
        intro z hz
        cases hz with
        | head => rw [o2]; rfl
        | tail _ hz => exact RR.some z hz) hn
      have fin : ∀ c : Int, c = (if r1.st = 4 then 4 else 9) → binS .Add (.int plain) (.int c) (upd (upd H2 n (.list [.int size, .int oct.length, .int r1.st])) l (.list (ra.map AV.ref ++ [.ref n]))) (fun v H => lmS .append o [v] H fun x H => sNil [some (.ref a), some (.ref o), some (.int size), some (.int k), some (.int r1.st), x2] H fun fl ρ H' => match fl with | .ret v => P v H' | .next => P .none H' | _ => False) := by
        intro c hc
        try simp (disch := omega) only [e_nil, b_Add]
        rw [e_append o3 (by rw [intsV_length, hitOct_length]; unfold LIM; omega)]
        have e4 : intsV (hitOct oct r p) ++ [AV.int (plain + c)] = intsV (hitOct oct r p ++ [plain + c]) := by rw [intsV_append]; rfl
        rw [e4, hc]
        refine hQ _ n hn0 ?_ ?_ ?_ ?_
        · refine ((K12.mono ?_).trans ((Kp.new _ hn).trans (Kp.upd _ (by simp)))).trans (Kp.upd _ (by simp))
          intro z hz
          cases hz with
          | head => exact .head _
          | tail _ hz => exact .tail _ (.tail _ hz)
        · exact upd_self _ _ _
        · rw [upd_ne _ _ nol, upd_self, List.map_append]; rfl
        · have e5 : rs.take k ++ [r1] ++ (rs.drop (k + 1)).map (barR r1.st) ++ [(⟨size, oct.length, r1.st⟩ : Row)] = (rs.take k ++ r1 :: (rs.drop (k + 1)).map (barR r1.st)) ++ [⟨size, oct.length, r1.st⟩] := by simp
          rw [e5]
          refine (RR.kp ((K3.mono (Y := o :: [n, l]) fun _ h => .tail _ h).trans (Kp.upd _ (.head _))) fun y hy => ?_).append (.cons ?_ .nil)
          · simp only [List.mem_cons, List.not_mem_nil, or_false, not_or]
            exact ⟨fun q => hd1 (by rw [← q]; exact .tail _ hy), fun q => hnr (by rw [← q]; exact hy), fun q => hd2 (by rw [← q]; exact hy)⟩
          · rw [upd_ne _ _ hno, upd_ne _ _ hnl2, upd_self]; rfl
      by_cases q : r1.st = 4
      · rw [if_pos q]
        exact fin 4 (by rw [if_pos q])
      · rw [if_neg q]
        exact fin 9 (by rw [if_neg q])
end
section
set_option genSizeOf false
set_option genSizeOfSpec false
set_option maxRecDepth 100000
set_option autoImplicit false
set_option genInjectivity false in
/-- the addresses of a page -/
structure PA where
  pg : Addr
  dp : Addr
  o : Addr
  f : Addr
  ac : Addr
  da : Addr
  la : Addr
  dn : Addr
  dd : Addr
  ld : Addr
/-- what a page holds -/
structure PgS where
  oct : List Int
  rsa : List Row
  rsd : List Row
  h : Int
  v : Int
  deepest : Int
noncomputable def attrsOf (A : PA) (S : PgS) : List (Str × AV) := [("octets", .ref A.o), ("fonts", .ref A.f), ("depth", .int 4), ("h", .int S.h), ("v", .int S.v), ("font", .int (-1)), ("across", .ref A.ac), ("down", .ref A.dn), ("deepest", .int S.deepest)]
noncomputable abbrev LX (A : PA) (raa rad : List Addr) : List Addr := A.o :: A.la :: A.ld :: (raa ++ rad)
structure PageAt (cM cP : Addr) (H : AHeap) (A : PA) (raa rad : List Addr) (S : PgS) : Prop where
  pg : H A.pg = some (.inst cP A.dp)
  dp : H A.dp = some (.attrs (attrsOf A S))
  ac : MovesAt cM H A.ac A.da 143 A.la
  dn : MovesAt cM H A.dn A.dd 157 A.ld
  la : H A.la = some (.list (raa.map .ref))
  ra : RowsT H raa S.rsa
  ld : H A.ld = some (.list (rad.map .ref))
  rd : RowsT H rad S.rsd
  oc : H A.o = some (.list (intsV S.oct))
  nd : (LX A raa rad).Nodup
noncomputable def isLst : AObj → Bool
  | .list _ => true
  | _ => false
theorem RowsT.lst {H : AHeap} {as : List Addr} {rs : List Row} (h : RowsT H as rs) : ∀ a ∈ as, ∃ vs, H a = Option.some (AObj.list vs) := by
  induction h with
  | nil => intro a ha; cases ha
  | cons e _ ih => intro a ha; cases ha with
    | head => exact ⟨_, e⟩
    | tail _ ha => exact ih a ha
section
variable {cM cP : Addr} {H H' : AHeap} {A : PA} {raa rad raa' rad' : List Addr} {S S' : PgS}
theorem PageAt.lst (p : PageAt cM cP H A raa rad S) : ∀ a ∈ LX A raa rad, ∃ vs, H a = some (.list vs) := by
  intro a ha
  rcases List.mem_cons.mp ha with rfl | ha
  · exact ⟨_, p.oc⟩
  rcases List.mem_cons.mp ha with rfl | ha
  · exact ⟨_, p.la⟩
  rcases List.mem_cons.mp ha with rfl | ha
  · exact ⟨_, p.ld⟩
  rcases List.mem_append.mp ha with ha | ha
  · exact p.ra.lst a ha
  · exact p.rd.lst a ha
theorem PageAt.nl (p : PageAt cM cP H A raa rad S) {a : Addr} {x : AObj} (h : H a = some x) (hx : isLst x = false) : a ∉ LX A raa rad := fun m => by
  obtain ⟨vs, e⟩ := p.lst a m
  rw [h] at e
  cases e; cases hx
theorem PageAt.lists (p : PageAt cM cP H A raa rad S) (K : Kp (LX A raa rad) H H') {oct' : List Int} {rsa' rsd' : List Row} (h1 : H' A.la = some (.list (raa'.map .ref))) (R1 : RowsT H' raa' rsa') (h2 : H' A.ld = some (.list (rad'.map .ref))) (R2 : RowsT H' rad' rsd')
    (ho : H' A.o = some (.list (intsV oct'))) (nd : (LX A raa' rad').Nodup) : PageAt cM cP H' A raa' rad' { S with oct := oct', rsa := rsa', rsd := rsd' } where
  pg := K _ _ p.pg (p.nl p.pg rfl)
  dp := K _ _ p.dp (p.nl p.dp rfl)
  ac := ⟨K _ _ p.ac.1 (p.nl p.ac.1 rfl), K _ _ p.ac.2 (p.nl p.ac.2 rfl)⟩
  dn := ⟨K _ _ p.dn.1 (p.nl p.dn.1 rfl), K _ _ p.dn.2 (p.nl p.dn.2 rfl)⟩
  la := h1
  ra := R1
  ld := h2
  rd := R2
  oc := ho
  nd := nd
theorem PageAt.attrs (p : PageAt cM cP H A raa rad S) (S' : PgS) (e1 : S'.oct = S.oct) (e2 : S'.rsa = S.rsa) (e3 : S'.rsd = S.rsd) : PageAt cM cP (upd H A.dp (.attrs (attrsOf A S'))) A raa rad S' := by
  have K : Kp [A.dp] H (upd H A.dp (.attrs (attrsOf A S'))) := Kp.upd _ (by simp)
  have hn : ∀ a ∈ LX A raa rad, a ∉ [A.dp] := fun a ha m => by
    simp at m; subst m; exact p.nl p.dp rfl ha
  have n1 : A.pg ∉ [A.dp] := by simp; exact ne_of_obj p.pg p.dp (by simp)
  have n2 : A.ac ∉ [A.dp] := by simp; exact ne_of_obj p.ac.1 p.dp (by simp)
  have n3 : A.dn ∉ [A.dp] := by simp; exact ne_of_obj p.dn.1 p.dp (by simp)
  have n4 : A.da ∉ [A.dp] := by simp; exact ne_of_obj p.ac.2 p.dp (by simp [attrsOf])
  have n5 : A.dd ∉ [A.dp] := by simp; exact ne_of_obj p.dn.2 p.dp (by simp [attrsOf])
  exact {
    pg := K _ _ p.pg n1
    dp := upd_self _ _ _
    ac := ⟨K _ _ p.ac.1 n2, K _ _ p.ac.2 n4⟩
    dn := ⟨K _ _ p.dn.1 n3, K _ _ p.dn.2 n5⟩
    la := K _ _ p.la (hn _ (by simp))
    ra := e2 ▸ p.ra.kp K fun a ha => hn a (by simp [ha])
    ld := K _ _ p.ld (hn _ (by simp))
    rd := e3 ▸ p.rd.kp K fun a ha => hn a (by simp [ha])
    oc := e1 ▸ K _ _ p.oc (hn _ (by simp))
    nd := p.nd }
theorem PageAt.octets (p : PageAt cM cP H A raa rad S) (P : AV → AHeap → Prop) : attrS cP "octets" (.ref A.pg) H P = P (.ref A.o) H := e_attr p.pg p.dp rfl P
theorem PageAt.geth (p : PageAt cM cP H A raa rad S) (P : AV → AHeap → Prop) : attrS cP "h" (.ref A.pg) H P = P (.int S.h) H := e_attr p.pg p.dp rfl P
theorem PageAt.getv (p : PageAt cM cP H A raa rad S) (P : AV → AHeap → Prop) : attrS cP "v" (.ref A.pg) H P = P (.int S.v) H := e_attr p.pg p.dp rfl P
theorem PageAt.across (p : PageAt cM cP H A raa rad S) (P : AV → AHeap → Prop) : attrS cP "across" (.ref A.pg) H P = P (.ref A.ac) H := e_attr p.pg p.dp rfl P
theorem PageAt.down (p : PageAt cM cP H A raa rad S) (P : AV → AHeap → Prop) : attrS cP "down" (.ref A.pg) H P = P (.ref A.dn) H := e_attr p.pg p.dp rfl P
theorem PageAt.deepest (p : PageAt cM cP H A raa rad S) (P : AV → AHeap → Prop) : attrS cP "deepest" (.ref A.pg) H P = P (.int S.deepest) H := e_attr p.pg p.dp rfl P
theorem PageAt.depth (p : PageAt cM cP H A raa rad S) (P : AV → AHeap → Prop) : attrS cP "depth" (.ref A.pg) H P = P (.int 4) H := e_attr p.pg p.dp rfl P
theorem PageAt.seth (p : PageAt cM cP H A raa rad S) (x : Int) (k : AHeap → Prop) : setAttrS cP "h" (.ref A.pg) (.int x) H k = k (upd H A.dp (.attrs (attrsOf A { S with h := x }))) := e_setAttr p.pg p.dp (by show 9 ≤ 100; decide) k
theorem PageAt.setv (p : PageAt cM cP H A raa rad S) (x : Int) (k : AHeap → Prop) : setAttrS cP "v" (.ref A.pg) (.int x) H k = k (upd H A.dp (.attrs (attrsOf A { S with v := x }))) := e_setAttr p.pg p.dp (by show 9 ≤ 100; decide) k
theorem PageAt.setdeep (p : PageAt cM cP H A raa rad S) (x : Int) (k : AHeap → Prop) : setAttrS cP "deepest" (.ref A.pg) (.int x) H k = k (upd H A.dp (.attrs (attrsOf A { S with deepest := x }))) := e_setAttr p.pg p.dp (by show 9 ≤ 100; decide) k
end
noncomputable def PgOk (S : PgS) : Prop := S.oct.length + 100 < LIM ∧ S.rsa.length + 100 < LIM ∧ S.rsd.length + 100 < LIM ∧ (∀ r ∈ S.rsa, r.spot < S.oct.length) ∧ (∀ r ∈ S.rsd, r.spot < S.oct.length)
theorem upd_none {H : AHeap} {a b : Addr} {o : AObj} (h : upd H a o b = none) : H b = none := by
  unfold upd at h
  split at h
  · cases h
  · exact h
/-- a method of the page: what it needs, what it makes of the page, what it gives -/
noncomputable def pageM (cM cP : Addr) (pg : Addr) (ok : PgS → Prop) (f : PgS → PgS) (r : PgS → AV) (H : AHeap) (P : AV → AHeap → Prop) : Prop :=
  ∃ A raa rad S, A.pg = pg ∧ PageAt cM cP H A raa rad S ∧ ok S ∧ ∀ H' raa' rad', PageAt cM cP H' A raa' rad' (f S) → Kp (A.dp :: LX A raa rad) H H' → (∀ a ∈ raa' ++ rad', a ∈ raa ++ rad ∨ H a = none) → (∀ a, H' a = none → H a = none) → P (r S) H'
noncomputable def goA (S : PgS) (h : Int) : PgS := if h = S.h then S else { S with oct := (moveP 143 (h - S.h) S.oct S.rsa).1, rsa := (moveP 143 (h - S.h) S.oct S.rsa).2, h := h }
noncomputable def goD (S : PgS) (v : Int) : PgS := if v = S.v then S else { S with oct := (moveP 157 (v - S.v) S.oct S.rsd).1, rsd := (moveP 157 (v - S.v) S.oct S.rsd).2, v := v }
noncomputable def go_acrossS (cM cP : Addr) : Spec := fun args H P => match args with
  | [.ref pg, .int h] => pageM cM cP pg (fun S => PgOk S ∧ h.natAbs ≤ 1073741823) (fun S => goA S h) (fun _ => .none) H P
  | _ => False
noncomputable def go_downS (cM cP : Addr) : Spec := fun args H P => match args with
  | [.ref pg, .int v] => pageM cM cP pg (fun S => PgOk S ∧ v.natAbs ≤ 1073741823) (fun S => goD S v) (fun _ => .none) H P
  | _ => False
theorem e_cp {x : Int} (hx : x.natAbs ≤ 1073741823) (H : AHeap) (P : AV → AHeap → Prop) : check_placeS [.int x] H P = P (.int x) H := by
  unfold check_placeS; simp [hx]
theorem go_acrossS_inv {cM cP : Addr} {args : List AV} {H : AHeap} {P : AV → AHeap → Prop} (h : go_acrossS cM cP args H P) : ∃ pg h, args = [.ref pg, .int h] ∧ go_acrossS cM cP [.ref pg, .int h] H P := by
  cases args with
  | nil => exact h.elim
  | cons a0 l0 =>
    cases a0 with
    | none => exact h.elim
    | bool _ => exact h.elim
    | int _ => exact h.elim
    | bytes _ => exact h.elim
    | ref pg =>
      cases l0 with
      | nil => exact h.elim
      | cons a1 l1 =>
        cases a1 with
        | none => exact h.elim
        | bool _ => exact h.elim
        | bytes _ => exact h.elim
        | ref _ => exact h.elim
        | int h =>
          cases l1 with
          | cons _ _ => exact h.elim
          | nil => exact ⟨_, _, rfl, h⟩
theorem go_across_ok (D : Ad) (hD1 : D.check_placeS = check_placeS) (hD2 : D.moveS = moveS D.cM) : ∀ args H P, go_acrossS D.cM D.cP args H P → args.length = 2 ∧ m_go_across D (startLoc args 0) H (fun fl _ H' => match fl with | .ret v => P v H' | .next => P .none H' | _ => False) := by
  intro args H P h
  obtain ⟨pg, x, rfl, h⟩ := go_acrossS_inv h
  · unfold go_acrossS at h
    (try dsimp only at h)
    obtain ⟨A, raa, rad, S, rfl, p, ⟨ok, hh⟩, hP⟩ := h
    refine ⟨rfl, ?_⟩
    unfold m_go_across
    refine r_seq ?_
    try simp (disch := omega) only [k_next, l_z, l_s, sExpr, mCall, aCons, aNil, startLoc, List.map_cons, List.map_nil, List.replicate, List.cons_append, List.nil_append]
    rw [hD1, e_cp hh]
    refine r_seq ?_
    try simp (disch := omega) only [k_next, e_nil, e_sIf, l_z, l_s, tCmp, mAttr]
    rw [p.geth]
    try simp (disch := omega) only [c_Ne, decide_eq_true_eq]
    unfold goA at hP
    by_cases q : x = S.h
    · rw [if_neg (by omega)]
      simp only [if_pos q] at hP
      exact hP H raa rad p (Kp.refl _ _) (fun a ha => .inl ha) fun a ha => ha
    · rw [if_pos (by omega)]
      simp only [if_neg q] at hP
      refine r_seq ?_
      try simp (disch := omega) only [k_next, l_z, e_meth, sExpr, mAttr]
      rw [p.across, e_methH p.ac.1 p.ac.2 rfl]
      try simp (disch := omega) only [l_z, l_s, mBin, mAttr, aCons, aNil]
      rw [p.octets, p.geth]
      try simp (disch := omega) only [b_Sub]
      rw [hD2]
      obtain ⟨k1, k2, k3, k4, k5⟩ := ok
      have nd := p.nd
      have nd' : (A.o :: A.la :: raa).Nodup := nd.sublist (.cons_cons _ (.cons_cons _ (.cons _ (List.sublist_append_left _ _))))
      refine ⟨A.da, 143, A.la, raa, S.rsa, S.oct, p.ac, p.la, p.ra, nd', p.oc, k4, by omega, by omega, fun H' n hn K ho hl R => ?_⟩
      have hsub : ∀ a ∈ A.o :: A.la :: raa, a ∈ LX A raa rad := fun a ha => by
        rcases List.mem_cons.mp ha with rfl | ha
        · simp
        rcases List.mem_cons.mp ha with rfl | ha
        · simp
        · simp [ha]
      have nf : ∀ a ∈ LX A raa rad, a ≠ n := fun a ha e => by
        obtain ⟨vs, q⟩ := p.lst a ha
        rw [e, hn] at q; cases q
      simp only [LX, List.nodup_cons, List.mem_cons, List.mem_append, not_or, List.nodup_append] at nd
      have p' := p.lists (raa' := raa ++ [n]) (rad' := rad) (K.mono hsub) hl R (K _ _ p.ld (by
        simp only [List.mem_cons, not_or]; exact ⟨Ne.symm nd.1.2.1, Ne.symm nd.2.1.1, nd.2.2.1.1⟩)) (p.rd.kp K fun a ha => by
          simp only [List.mem_cons, not_or]
          exact ⟨fun e => nd.1.2.2.2 (by rw [← e]; exact ha), fun e => nd.2.1.2.2 (by rw [← e]; exact ha), fun m => nd.2.2.2.2.2 a m a ha rfl⟩) ho (by
        simp only [LX, List.nodup_cons, List.mem_cons, List.mem_append, not_or, List.nodup_append, List.not_mem_nil, or_false]
        have n1 := nf A.o (by simp)
        have n2 := nf A.la (by simp)
        have n3 := nf A.ld (by simp)
        refine ⟨⟨nd.1.1, nd.1.2.1, ⟨nd.1.2.2.1, n1⟩, nd.1.2.2.2⟩, ⟨nd.2.1.1, ⟨nd.2.1.2.1, n2⟩, nd.2.1.2.2⟩, ⟨⟨nd.2.2.1.1, n3⟩, nd.2.2.1.2⟩, ⟨nd.2.2.2.1, ⟨by simp, List.nodup_nil⟩, fun a ha b hb => ?_⟩, nd.2.2.2.2.1, fun a ha b hb => ?_⟩
        · subst hb; exact nf a (by simp [ha])
        · rcases ha with ha | ha
          · exact nd.2.2.2.2.2 a ha b hb
          · subst ha; exact fun e => nf b (by simp [hb]) e.symm)
      refine r_seq ?_
      try simp (disch := omega) only [k_next, e_nil, l_z, l_s, sAssign, tAttr]
      rw [p'.seth]
      refine hP _ (raa ++ [n]) rad (p'.attrs _ rfl rfl rfl) ?_ (fun a ha => ?_) fun a ha => fresh_of K (fun z hz => ?_) (upd_none ha)
      · exact ((K.mono hsub).mono fun a ha => .tail _ ha).trans (Kp.upd _ (.head _))
      · simp only [List.mem_append, List.mem_cons, List.not_mem_nil, or_false] at ha ⊢
        rcases ha with (ha | rfl) | ha
        · exact .inl (.inl ha)
        · exact .inr hn
        · exact .inl (.inr ha)
      · obtain ⟨vs, e⟩ := p'.lst z (by
          rcases List.mem_cons.mp hz with rfl | hz
          · simp
          rcases List.mem_cons.mp hz with rfl | hz
          · simp
          · simp [hz])
        rw [e]; rfl
end
section
set_option genSizeOf false
set_option genSizeOfSpec false
set_option maxRecDepth 100000
set_option autoImplicit false
theorem go_downS_inv {cM cP : Addr} {args : List AV} {H : AHeap} {P : AV → AHeap → Prop} (h : go_downS cM cP args H P) : ∃ pg v, args = [.ref pg, .int v] ∧ go_downS cM cP [.ref pg, .int v] H P := by
  cases args with
  | nil => exact h.elim
  | cons a0 l0 =>
    cases a0 with
    | none => exact h.elim
    | bool _ => exact h.elim
    | int _ => exact h.elim
    | bytes _ => exact h.elim
    | ref pg =>
      cases l0 with
      | nil => exact h.elim
      | cons a1 l1 =>
        cases a1 with
        | none => exact h.elim
        | bool _ => exact h.elim
        | bytes _ => exact h.elim
        | ref _ => exact h.elim
        | int v =>
          cases l1 with
          | cons _ _ => exact h.elim
          | nil => exact ⟨_, _, rfl, h⟩
theorem go_down_ok (D : Ad) (hD1 : D.check_placeS = check_placeS) (hD2 : D.moveS = moveS D.cM) : ∀ args H P, go_downS D.cM D.cP args H P → args.length = 2 ∧ m_go_down D (startLoc args 0) H (fun fl _ H' => match fl with | .ret v => P v H' | .next => P .none H' | _ => False) := by
  intro args H P h
  obtain ⟨pg, x, rfl, h⟩ := go_downS_inv h
  · unfold go_downS at h
    (try dsimp only at h)
    obtain ⟨A, raa, rad, S, rfl, p, ⟨ok, hh⟩, hP⟩ := h
    refine ⟨rfl, ?_⟩
    unfold m_go_down
    refine r_seq ?_
    try simp (disch := omega) only [k_next, l_z, l_s, sExpr, mCall, aCons, aNil, startLoc, List.map_cons, List.map_nil, List.replicate, List.cons_append, List.nil_append]
    rw [hD1, e_cp hh]
    refine r_seq ?_
    try simp (disch := omega) only [k_next, e_nil, e_sIf, l_z, l_s, tCmp, mAttr]
    rw [p.getv]
    try simp (disch := omega) only [c_Ne, decide_eq_true_eq]
    unfold goD at hP
    by_cases q : x = S.v
    · rw [if_neg (by omega)]
      simp only [if_pos q] at hP
      exact hP H raa rad p (Kp.refl _ _) (fun a ha => .inl ha) fun a ha => ha
    · rw [if_pos (by omega)]
      simp only [if_neg q] at hP
      refine r_seq ?_
      try simp (disch := omega) only [k_next, l_z, e_meth, sExpr, mAttr]
      rw [p.down, e_methH p.dn.1 p.dn.2 rfl]
      try simp (disch := omega) only [l_z, l_s, mBin, mAttr, aCons, aNil]
      rw [p.octets, p.getv]
      try simp (disch := omega) only [b_Sub]
      rw [hD2]
      obtain ⟨k1, k2, k3, k4, k5⟩ := ok
      have nd := p.nd
      have nd' : (A.o :: A.ld :: rad).Nodup := nd.sublist (.cons_cons _ (.cons _ (.cons_cons _ (List.sublist_append_right _ _))))
      refine ⟨A.dd, 157, A.ld, rad, S.rsd, S.oct, p.dn, p.ld, p.rd, nd', p.oc, k5, by omega, by omega, fun H' n hn K ho hl R => ?_⟩
      have hsub : ∀ a ∈ A.o :: A.ld :: rad, a ∈ LX A raa rad := fun a ha => by
        rcases List.mem_cons.mp ha with rfl | ha
        · simp
        rcases List.mem_cons.mp ha with rfl | ha
        · simp
        · simp [ha]
      have nf : ∀ a ∈ LX A raa rad, a ≠ n := fun a ha e => by
        obtain ⟨vs, q⟩ := p.lst a ha
        rw [e, hn] at q; cases q
      simp only [LX, List.nodup_cons, List.mem_cons, List.mem_append, not_or, List.nodup_append] at nd
      have p' := p.lists (raa' := raa) (rad' := rad ++ [n]) (K.mono hsub) (K _ _ p.la (by
        simp only [List.mem_cons, not_or]; exact ⟨Ne.symm nd.1.1, nd.2.1.1, nd.2.1.2.2⟩)) (p.ra.kp K fun a ha => by
          simp only [List.mem_cons, not_or]
          exact ⟨fun e => nd.1.2.2.1 (by rw [← e]; exact ha), fun e => nd.2.2.1.1 (by rw [← e]; exact ha), fun m => nd.2.2.2.2.2 a ha a m rfl⟩) hl R ho (by
        simp only [LX, List.nodup_cons, List.mem_cons, List.mem_append, not_or, List.nodup_append, List.not_mem_nil, or_false]
        have n1 := nf A.o (by simp)
        have n2 := nf A.la (by simp)
        have n3 := nf A.ld (by simp)
        refine ⟨⟨nd.1.1, nd.1.2.1, nd.1.2.2.1, nd.1.2.2.2, n1⟩, ⟨nd.2.1.1, nd.2.1.2.1, nd.2.1.2.2, n2⟩, ⟨nd.2.2.1.1, nd.2.2.1.2, n3⟩, nd.2.2.2.1, ⟨nd.2.2.2.2.1, ⟨by simp, List.nodup_nil⟩, fun a ha b hb => ?_⟩, fun a ha b hb => ?_⟩
        · subst hb; exact nf a (by simp [ha])
        · rcases hb with hb | hb
          · exact nd.2.2.2.2.2 a ha b hb
          · subst hb; exact nf a (by simp [ha]))
      refine r_seq ?_
      try simp (disch := omega) only [k_next, e_nil, l_z, l_s, sAssign, tAttr]
      rw [p'.setv]
      refine hP _ raa (rad ++ [n]) (p'.attrs _ rfl rfl rfl) ?_ (fun a ha => ?_) fun a ha => fresh_of K (fun z hz => ?_) (upd_none ha)
      · exact ((K.mono hsub).mono fun a ha => .tail _ ha).trans (Kp.upd _ (.head _))
      · simp only [List.mem_append, List.mem_cons, List.not_mem_nil, or_false] at ha ⊢
        rcases ha with ha | ha | rfl
        · exact .inl (.inl ha)
        · exact .inl (.inr ha)
        · exact .inr hn
      · obtain ⟨vs, e⟩ := p'.lst z (by
          rcases List.mem_cons.mp hz with rfl | hz
          · simp
          rcases List.mem_cons.mp hz with rfl | hz
          · simp
          · simp [hz])
        rw [e]; rfl
noncomputable def openP (S : PgS) (d : Int) : PgS := if 0 < d then { S with oct := S.oct ++ [141] } else S
noncomputable def openS (cM cP : Addr) : Spec := fun args H P => match args with
  | [.ref pg, .int d] => pageM cM cP pg (fun S => PgOk S ∧ d ≤ 4) (fun S => openP S d) (fun S => .int (openP S d).oct.length) H P
  | _ => False
section
variable {cM cP : Addr} {H H' : AHeap} {A : PA} {raa rad : List Addr} {S : PgS}
/-- the octets turned -/
theorem PageAt.oct (p : PageAt cM cP H A raa rad S) (oct' : List Int) : PageAt cM cP (upd H A.o (.list (intsV oct'))) A raa rad { S with oct := oct' } := by
  have nd := p.nd
  simp only [LX, List.nodup_cons, List.mem_cons, List.mem_append, not_or] at nd
  have K : Kp [A.o] H (upd H A.o (.list (intsV oct'))) := Kp.upd _ (by simp)
  refine p.lists (K.mono (by simp)) (K _ _ p.la (by simp [Ne.symm nd.1.1])) (p.ra.kp K fun a ha => by simp; rintro rfl; exact nd.1.2.2.1 ha) (K _ _ p.ld (by simp [Ne.symm nd.1.2.1])) (p.rd.kp K fun a ha => by simp; rintro rfl; exact nd.1.2.2.2 ha) (upd_self _ _ _) p.nd
theorem PageAt.octK (p : PageAt cM cP H A raa rad S) (oct' : List Int) : Kp (A.dp :: LX A raa rad) H (upd H A.o (.list (intsV oct'))) := Kp.upd _ (by simp)
end
theorem openS_inv {cM cP : Addr} {args : List AV} {H : AHeap} {P : AV → AHeap → Prop} (h : openS cM cP args H P) : ∃ pg d, args = [.ref pg, .int d] ∧ openS cM cP [.ref pg, .int d] H P := by
  cases args with
  | nil => exact h.elim
  | cons a0 l0 =>
    cases a0 with
    | none => exact h.elim
    | bool _ => exact h.elim
    | int _ => exact h.elim
    | bytes _ => exact h.elim
    | ref pg =>
      cases l0 with
      | nil => exact h.elim
      | cons a1 l1 =>
        cases a1 with
        | none => exact h.elim
        | bool _ => exact h.elim
        | bytes _ => exact h.elim
        | ref _ => exact h.elim
        | int d =>
          cases l1 with
          | cons _ _ => exact h.elim
          | nil => exact ⟨_, _, rfl, h⟩
theorem open_ok (D : Ad) : ∀ args H P, openS D.cM D.cP args H P → args.length = 2 ∧ m_open_ D (startLoc args 0) H (fun fl _ H' => match fl with | .ret v => P v H' | .next => P .none H' | _ => False) := by
  intro args H P h
  obtain ⟨pg, d, rfl, h⟩ := openS_inv h
  · unfold openS at h
    (try dsimp only at h)
    obtain ⟨A, raa, rad, S, rfl, p, ⟨ok, hh⟩, hP⟩ := h
    refine ⟨rfl, ?_⟩
    have hk1 := ok.1
    unfold m_open_
    refine r_seq ?_
    try simp (disch := omega) only [k_next, e_nil, e_sIf, l_z, l_s, tCmp, mAttr, startLoc, List.map_cons, List.map_nil, List.replicate, List.cons_append, List.nil_append]
    rw [p.depth]
    try simp (disch := omega) only [c_Gt, decide_eq_true_eq]
    rw [if_neg (by omega)]
    refine r_seq ?_
    try simp (disch := omega) only [k_next, e_nil, e_sIf, l_z, l_s, c_Gt, mConst, tCmp, decide_eq_true_eq]
    unfold openP at hP
    by_cases q : 0 < d
    · rw [if_pos q]
      simp only [if_pos q] at hP
      refine r_seq ?_
      try simp (disch := omega) only [k_next, e_nil, l_z, e_lm, sExpr, mAttr]
      rw [p.octets, e_lmH p.oc]
      try simp (disch := omega) only [mConst, aCons, aNil]
      rw [e_append p.oc (by rw [intsV_length]; omega)]
      have e : intsV S.oct ++ [AV.int 141] = intsV (S.oct ++ [141]) := by rw [intsV_append]; rfl
      rw [e]
      have p' := p.oct (S.oct ++ [141])
      refine r_seq ?_
      try simp (disch := omega) only [k_ret, l_z, sRet, mCall, mAttr, aCons, aNil]
      rw [p'.octets, e_len p'.oc (by rw [intsV_length]; simp; omega), intsV_length]
      exact hP _ raa rad p' (p.octK _) (fun a ha => .inl ha) fun a ha => upd_none ha
    · rw [if_neg q]
      simp only [if_neg q] at hP
      refine r_seq ?_
      try simp (disch := omega) only [k_ret, l_z, sRet, mCall, mAttr, aCons, aNil]
      rw [p.octets, e_len p.oc (by rw [intsV_length]; omega), intsV_length]
      exact hP _ raa rad p (Kp.refl _ _) (fun a ha => .inl ha) fun a ha => ha
noncomputable def pruneP (b : Int) (rs : List Row) : List Row := rs.take (pruneN b rs.reverse)
noncomputable def closeP (S : PgS) (b d : Int) : PgS :=
  if 0 < d then
    if S.oct.length = b then { S with oct := S.oct.dropLast, rsa := pruneP b S.rsa, rsd := pruneP b S.rsd }
    else { S with oct := S.oct ++ [142], rsa := pruneP b S.rsa, rsd := pruneP b S.rsd, deepest := if d > S.deepest then d else S.deepest }
  else { S with rsa := pruneP b S.rsa, rsd := pruneP b S.rsd }
noncomputable def closeS (cM cP : Addr) : Spec := fun args H P => match args with
  | [.ref pg, .int b, .int d] => pageM cM cP pg (fun S => PgOk S ∧ (0 < d → S.oct ≠ [])) (fun S => closeP S b d) (fun S => .none) H P
  | _ => False
theorem closeS_inv {cM cP : Addr} {args : List AV} {H : AHeap} {P : AV → AHeap → Prop} (h : closeS cM cP args H P) : ∃ pg b d, args = [.ref pg, .int b, .int d] ∧ closeS cM cP [.ref pg, .int b, .int d] H P := by
  cases args with
  | nil => exact h.elim
  | cons a0 l0 =>
    cases a0 with
    | none => exact h.elim
    | bool _ => exact h.elim
    | int _ => exact h.elim
    | bytes _ => exact h.elim
    | ref pg =>
      cases l0 with
      | nil => exact h.elim
      | cons a1 l1 =>
        cases a1 with
        | none => exact h.elim
        | bool _ => exact h.elim
        | bytes _ => exact h.elim
        | ref _ => exact h.elim
        | int b =>
          cases l1 with
          | nil => exact h.elim
          | cons a2 l2 =>
            cases a2 with
            | none => exact h.elim
            | bool _ => exact h.elim
            | bytes _ => exact h.elim
            | ref _ => exact h.elim
            | int d =>
              cases l2 with
              | cons _ _ => exact h.elim
              | nil => exact ⟨_, _, _, rfl, h⟩
theorem close_ok (D : Ad) (hD : D.pruneS = pruneS D.cM) : ∀ args H P, closeS D.cM D.cP args H P → args.length = 3 ∧ m_close_ D (startLoc args 0) H (fun fl _ H' => match fl with | .ret v => P v H' | .next => P .none H' | _ => False) := by
  intro args H P h
  obtain ⟨pg, b, d, rfl, h⟩ := closeS_inv h
  · unfold closeS at h
    (try dsimp only at h)
    obtain ⟨A, raa, rad, S, rfl, p, ⟨ok, hne⟩, hP⟩ := h
    refine ⟨rfl, ?_⟩
    obtain ⟨k1, k2, k3, k4, k5⟩ := ok
    have nd := p.nd
    simp only [LX, List.nodup_cons, List.mem_cons, List.mem_append, not_or, List.nodup_append] at nd
    unfold m_close_
    refine r_seq ?_
    try simp (disch := omega) only [k_next, l_z, e_meth, sExpr, mAttr, startLoc, List.map_cons, List.map_nil, List.replicate, List.cons_append, List.nil_append]
    rw [p.across, e_methH p.ac.1 p.ac.2 rfl]
    try simp (disch := omega) only [l_z, l_s, aCons, aNil]
    rw [hD]
    refine ⟨A.da, 143, A.la, raa, S.rsa, p.ac, p.la, p.ra, nd.2.1.2.1, by omega, ?_⟩
    refine r_seq ?_
    try simp (disch := omega) only [k_next, l_z, e_meth, sExpr, mAttr]
    have hla := p.ra.length
    have hld := p.rd.length
    generalize hk : pruneN b S.rsa.reverse = ka
    have K1 : Kp [A.la] H (upd H A.la (.list ((raa.take ka).map .ref))) := Kp.upd _ (by simp)
    have nd1 : (LX A (raa.take ka) rad).Nodup := p.nd.sublist (.cons_cons _ (.cons_cons _ (.cons_cons _ (List.Sublist.append (List.take_sublist _ _) (List.Sublist.refl _)))))
    have p1 := p.lists (raa' := raa.take ka) (rad' := rad) (rsa' := S.rsa.take ka) (rsd' := S.rsd) (oct' := S.oct) (K1.mono (by simp)) (upd_self _ _ _)
      ((p.ra.take ka).kp K1 fun a ha => by simp; rintro rfl; exact nd.2.1.2.1 (List.mem_of_mem_take ha)) (K1 _ _ p.ld (by simp [Ne.symm nd.2.1.1])) (p.rd.kp K1 fun a ha => by simp; rintro rfl; exact nd.2.1.2.2 ha) (K1 _ _ p.oc (by simp [nd.1.1])) nd1
    have g1 : ∀ a, upd H A.la (.list ((raa.take ka).map .ref)) a = none → H a = none := fun a ha => upd_none ha
    generalize upd H A.la (.list ((raa.take ka).map .ref)) = H1 at p1 K1 g1
    rw [p1.down, e_methH p1.dn.1 p1.dn.2 rfl]
    try simp (disch := omega) only [l_z, l_s, aCons, aNil]
    refine ⟨A.dd, 157, A.ld, rad, S.rsd, p1.dn, p1.ld, p1.rd, nd.2.2.1.2, by omega, ?_⟩
    generalize hk2 : pruneN b S.rsd.reverse = kd
    have K2 : Kp [A.ld] H1 (upd H1 A.ld (.list ((rad.take kd).map .ref))) := Kp.upd _ (by simp)
    have nd2 : (LX A (raa.take ka) (rad.take kd)).Nodup := nd1.sublist (.cons_cons _ (.cons_cons _ (.cons_cons _ (List.Sublist.append (List.Sublist.refl _) (List.take_sublist _ _)))))
    have p2 := p1.lists (raa' := raa.take ka) (rad' := rad.take kd) (rsa' := S.rsa.take ka) (rsd' := S.rsd.take kd) (oct' := S.oct) (K2.mono (by simp)) (K2 _ _ p1.la (by simp [nd.2.1.1]))
      (p1.ra.kp K2 fun a ha => by simp; rintro rfl; exact nd.2.2.1.1 (List.mem_of_mem_take ha)) (upd_self _ _ _) ((p1.rd.take kd).kp K2 fun a ha => by simp; rintro rfl; exact nd.2.2.1.2 (List.mem_of_mem_take ha)) (K2 _ _ p1.oc (by simp [nd.1.2.1])) nd2
    have g2 : ∀ a, upd H1 A.ld (.list ((rad.take kd).map .ref)) a = none → H1 a = none := fun a ha => upd_none ha
    generalize upd H1 A.ld (.list ((rad.take kd).map .ref)) = H2 at p2 K2 g2
    have g12 : ∀ a, H2 a = none → H a = none := fun a ha => g1 a (g2 a ha)
    have K12 : Kp (A.dp :: LX A raa rad) H H2 := (K1.mono (by simp)).trans (K2.mono (by simp))
    have sub : ∀ a ∈ raa.take ka ++ rad.take kd, a ∈ raa ++ rad ∨ H a = none := fun a ha => by
      rcases List.mem_append.mp ha with ha | ha
      · exact .inl (List.mem_append_left _ (List.mem_of_mem_take ha))
      · exact .inl (List.mem_append_right _ (List.mem_of_mem_take ha))
    unfold closeP pruneP at hP
    dsimp only at hP
    rw [hk, hk2] at hP
    refine r_seq ?_
    try simp (disch := omega) only [e_sIf, e_tAnd, l_z, l_s, c_Gt, mConst, tCmp, mCall, mAttr, aCons, aNil, tTrue, decide_eq_true_eq, if_true, Bool.false_eq_true, if_false]
    by_cases q : 0 < d
    · rw [if_pos q]
      simp only [if_pos q] at hP
      rw [p2.octets, e_len p2.oc (by rw [intsV_length]; dsimp only; omega), intsV_length]
      try simp (disch := omega) only [c_Eq, decide_eq_true_eq]
      by_cases q2 : (S.oct.length : Int) = b
      · rw [if_pos q2]
        simp only [if_pos q2] at hP
        refine r_seq ?_
        try simp (disch := omega) only [k_next, e_nil, l_z, e_lm, sExpr, mAttr]
        rw [p2.octets, e_lmH p2.oc]
        obtain ⟨x, y, e⟩ : ∃ x y, S.oct = x ++ [y] := by
          rcases List.eq_nil_or_concat S.oct with h | ⟨x, y, h⟩
          · exact absurd h (hne q)
          · exact ⟨x, y, by simpa using h⟩
        try simp (disch := omega) only [aNil]
        rw [e_pop (vs := intsV x) (v := .int y) (by rw [p2.oc]; dsimp only; rw [e, intsV_append]; rfl) (by rw [intsV_length]; have := congrArg List.length e; simp at this; omega)]
        have ed : S.oct.dropLast = x := by rw [e]; simp
        rw [ed] at hP
        exact hP _ _ _ (p2.oct x) (K12.trans (Kp.upd _ (by simp))) sub fun a ha => g12 a (upd_none ha)
      · rw [if_neg q2]
        simp only [if_neg q2] at hP
        refine r_seq ?_
        try simp (disch := omega) only [k_next, e_nil, e_sIf, l_z, l_s, c_Gt, mConst, tCmp, decide_eq_true_eq]
        rw [if_pos q]
        refine r_seq ?_
        try simp (disch := omega) only [k_next, l_z, e_lm, sExpr, mAttr]
        rw [p2.octets, e_lmH p2.oc]
        try simp (disch := omega) only [mConst, aCons, aNil]
        rw [e_append p2.oc (by rw [intsV_length]; dsimp only; omega)]
        have e : intsV S.oct ++ [AV.int 142] = intsV (S.oct ++ [142]) := by rw [intsV_append]; rfl
        dsimp only
        rw [e]
        have p3 := p2.oct (S.oct ++ [142])
        refine r_seq ?_
        try simp (disch := omega) only [k_next, e_nil, l_z, l_s, sAssign, tAttr, mCall, mAttr, aCons, aNil]
        rw [p3.deepest]
        try simp (disch := omega) only [e_max]
        rw [p3.setdeep]
        exact hP _ _ _ (p3.attrs _ rfl rfl rfl) ((K12.trans (Kp.upd _ (by simp))).trans (Kp.upd _ (by simp))) sub fun a ha => g12 a (upd_none (upd_none ha))
    · rw [if_neg q]
      simp only [if_neg q] at hP
      refine r_seq ?_
      try simp (disch := omega) only [k_next, e_nil, e_sIf, l_z, l_s, c_Gt, mConst, tCmp, decide_eq_true_eq]
      rw [if_neg q]
      exact hP _ _ _ p2 K12 sub g12
end
section
set_option genSizeOf false
set_option genSizeOfSpec false
set_option maxRecDepth 100000
set_option autoImplicit false
theorem Kp.trans' {X Y : List Addr} {H₁ H₂ H₃ : AHeap} (h : Kp X H₁ H₂) (k : Kp Y H₂ H₃) (hs : ∀ a ∈ Y, a ∈ X ∨ H₁ a = none) : Kp X H₁ H₃ := fun a o e n => k a o (h a o e n) fun m => by
  rcases hs a m with q | q
  · exact n q
  · rw [e] at q; cases q
theorem lx_sub {A : PA} {H : AHeap} {raa rad raa' rad' : List Addr} (h : ∀ a ∈ raa' ++ rad', a ∈ raa ++ rad ∨ H a = none) : ∀ a ∈ A.dp :: LX A raa' rad', a ∈ A.dp :: LX A raa rad ∨ H a = none := fun a ha => by
  simp only [LX, List.mem_cons] at ha ⊢
  rcases ha with ha | ha | ha | ha | ha
  · exact .inl (.inl ha)
  · exact .inl (.inr (.inl ha))
  · exact .inl (.inr (.inr (.inl ha)))
  · exact .inl (.inr (.inr (.inr (.inl ha))))
  · rcases h a ha with q | q
    · exact .inl (.inr (.inr (.inr (.inr q))))
    · exact .inr q
noncomputable def specialP (S : PgS) (m : Int) (h v : Int) : PgS := { goD (goA S h) v with oct := (goD (goA S h) v).oct ++ [239, 1, m] }
noncomputable def specialS (cM cP : Addr) : Spec := fun args H P => match args with
  | [.ref pg, .bytes [c], .int h, .int v] => pageM cM cP pg (fun S => PgOk S ∧ PgOk (goA S h) ∧ PgOk (goD (goA S h) v) ∧ h.natAbs ≤ 1073741823 ∧ v.natAbs ≤ 1073741823) (fun S => specialP S c.toNat h v) (fun _ => .none) H P
  | _ => False
theorem specialS_inv {cM cP : Addr} {args : List AV} {H : AHeap} {P : AV → AHeap → Prop} (h : specialS cM cP args H P) : ∃ pg c h v, args = [.ref pg, .bytes [c], .int h, .int v] ∧ specialS cM cP [.ref pg, .bytes [c], .int h, .int v] H P := by
  cases args with
  | nil => exact h.elim
  | cons a0 l0 =>
    cases a0 with
    | none => exact h.elim
    | bool _ => exact h.elim
    | int _ => exact h.elim
    | bytes _ => exact h.elim
    | ref pg =>
      cases l0 with
      | nil => exact h.elim
      | cons a1 l1 =>
        cases a1 with
        | none => exact h.elim
        | bool _ => exact h.elim
        | int _ => exact h.elim
        | ref _ => exact h.elim
        | bytes c =>
          cases c with
          | nil => exact h.elim
          | cons c0 cr =>
            cases cr with
            | cons _ _ => exact h.elim
            | nil =>
              cases l1 with
              | nil => exact h.elim
              | cons a2 l2 =>
                cases a2 with
                | none => exact h.elim
                | bool _ => exact h.elim
                | bytes _ => exact h.elim
                | ref _ => exact h.elim
                | int h =>
                  cases l2 with
                  | nil => exact h.elim
                  | cons a3 l3 =>
                    cases a3 with
                    | none => exact h.elim
                    | bool _ => exact h.elim
                    | bytes _ => exact h.elim
                    | ref _ => exact h.elim
                    | int v =>
                      cases l3 with
                      | cons _ _ => exact h.elim
                      | nil => exact ⟨_, _, _, _, rfl, h⟩
theorem special_ok (D : Ad) (hD1 : D.go_acrossS = go_acrossS D.cM D.cP) (hD2 : D.go_downS = go_downS D.cM D.cP) (hD3 : D.put_countedS = put_countedS) : ∀ args H P, specialS D.cM D.cP args H P → args.length = 4 ∧ m_special D (startLoc args 0) H (fun fl _ H' => match fl with | .ret v => P v H' | .next => P .none H' | _ => False) := by
  intro args H P h
  obtain ⟨pg, c, x, y, rfl, h⟩ := specialS_inv h
  · unfold specialS at h
    (try dsimp only at h)
    obtain ⟨A, raa, rad, S, rfl, p, ⟨ok, ok1, ok2, hx, hy⟩, hP⟩ := h
    refine ⟨rfl, ?_⟩
    unfold m_special
    refine r_seq ?_
    try simp (disch := omega) only [k_next, l_z, e_meth, sExpr, startLoc, List.map_cons, List.map_nil, List.replicate, List.cons_append, List.nil_append]
    rw [e_methH p.pg p.dp rfl]
    try simp (disch := omega) only [l_z, l_s, aCons, aNil]
    rw [hD1]
    refine ⟨A, raa, rad, S, rfl, p, ⟨ok, hx⟩, fun H1 raa1 rad1 p1 K1 s1 g1 => ?_⟩
    dsimp only at p1 ⊢
    refine r_seq ?_
    try simp (disch := omega) only [k_next, l_z, e_meth, sExpr]
    rw [e_methH p1.pg p1.dp rfl]
    try simp (disch := omega) only [l_z, l_s, aCons, aNil]
    rw [hD2]
    refine ⟨A, raa1, rad1, _, rfl, p1, ⟨ok1, hy⟩, fun H2 raa2 rad2 p2 K2 s2 g2 => ?_⟩
    dsimp only at p2 ⊢
    have K12 : Kp (A.dp :: LX A raa rad) H H2 := K1.trans' K2 (lx_sub s1)
    have s12 : ∀ a ∈ raa2 ++ rad2, a ∈ raa ++ rad ∨ H a = none := fun a ha => by
      rcases s2 a ha with q | q
      · exact s1 a q
      · exact .inr (g1 a q)
    have hz := ok2.1
    unfold specialP at hP
    dsimp only at hP
    generalize goD (goA S x) y = T at *
    refine r_seq ?_
    try simp (disch := omega) only [k_next, l_z, l_s, sExpr, mConst, mCall, mAttr, aCons, aNil]
    rw [p2.octets]
    have el : ∀ (H : AHeap) (P : AV → AHeap → Prop), lenS [.bytes [c]] H P = P (.int 1) H := fun H P => by unfold lenS; simp [LIM]
    rw [el, hD3]
    refine ⟨T.oct, p2.oc, by omega, by decide, by decide, ?_⟩
    have p3 := p2.oct (T.oct ++ [239, 1])
    refine r_seq ?_
    try simp (disch := omega) only [k_next, e_nil, l_z, e_lm, sExpr, mAttr]
    rw [p3.octets, e_lmH p3.oc]
    try simp (disch := omega) only [l_z, l_s, aCons, aNil]
    unfold lmS
    dsimp only
    refine ⟨_, p3.oc, by rw [intsV_length]; simp; omega, ?_⟩
    have e : intsV (T.oct ++ [239, 1]) ++ [AV.int c.toNat] = intsV (T.oct ++ [239, 1, (c.toNat : Int)]) := by
      rw [intsV_append, intsV_append, List.append_assoc]; rfl
    rw [e, upd_upd]
    refine hP _ raa2 rad2 (p2.oct _) ?_ s12 fun a ha => g1 a (g2 a (upd_none ha))
    exact K12.trans (Kp.upd _ (by simp))
end
section
set_option genSizeOf false
set_option genSizeOfSpec false
set_option maxRecDepth 100000
set_option autoImplicit false
theorem new_moves {cM : Addr} {plain : Int} {ρ : Loc} {H : AHeap} {P : AV → AHeap → Prop} (h : ∀ H' x d l, Kp [] H H' → MovesAt cM H' x d plain l → H' l = some (.list []) → H l = none → (∀ a, H' a = none → H a = none) → P (.ref x) H') :
    mNew cM (movesInitS cM) (aCons (mConst (.int plain)) aNil) ρ H P := by
  unfold mNew
  try simp (disch := omega) only [mConst, aCons, aNil]
  intro x dx hdx hx ne
  have f1 : upd (upd H dx (.attrs [])) x (.inst cM dx) dx = some (.attrs []) := by rw [upd_ne _ _ (Ne.symm ne), upd_self]
  refine ⟨dx, upd_self _ _ _, f1, fun l hl => ⟨rfl, ?_⟩⟩
  have hl' : H l = none := upd_none (upd_none hl)
  have n1 : l ≠ dx := fun e => by rw [e, f1] at hl; cases hl
  have n2 : l ≠ x := fun e => by rw [e, upd_self] at hl; cases hl
  refine h _ x dx l ?_ ⟨?_, upd_self _ _ _⟩ ?_ hl' fun a ha => upd_none (upd_none (upd_none (upd_none (upd_none ha))))
  · intro a o e _
    have na : a ≠ dx := fun q => by rw [q, hdx] at e; cases e
    have nb : a ≠ x := fun q => by rw [q, hx] at e; cases e
    have nc : a ≠ l := fun q => by rw [q, hl'] at e; cases e
    rw [upd_ne _ _ na, upd_ne _ _ nc, upd_ne _ _ na, upd_ne _ _ nb, upd_ne _ _ na]; exact e
  · rw [upd_ne _ _ ne, upd_ne _ _ (Ne.symm n2), upd_ne _ _ ne, upd_self]
  · rw [upd_ne _ _ n1, upd_self]
noncomputable def S0 : PgS := ⟨[], [], [], 0, 0, 0⟩
noncomputable def pageInitS (cM cP : Addr) : Spec := fun args H P => match args with
  | [.ref pg, .ref fd, .int dep] => dep = 4 ∧ ∃ dp, H pg = some (.inst cP dp) ∧ H dp = some (.attrs []) ∧ H fd = some .edict ∧ fd ≠ sysModules ∧
      ∀ H' A, A.pg = pg → A.dp = dp → PageAt cM cP H' A [] [] S0 → Kp [dp] H H' → (∀ a ∈ [A.o, A.la, A.ld], H a = none) → (∀ a, H' a = none → H a = none) → P .none H'
  | _ => False
theorem pageInitS_inv {cM cP : Addr} {args : List AV} {H : AHeap} {P : AV → AHeap → Prop} (h : pageInitS cM cP args H P) : ∃ pg fd dep, args = [.ref pg, .ref fd, .int dep] ∧ pageInitS cM cP [.ref pg, .ref fd, .int dep] H P := by
  cases args with
  | nil => exact h.elim
  | cons a0 l0 =>
    cases a0 with
    | none => exact h.elim
    | bool _ => exact h.elim
    | int _ => exact h.elim
    | bytes _ => exact h.elim
    | ref pg =>
      cases l0 with
      | nil => exact h.elim
      | cons a1 l1 =>
        cases a1 with
        | none => exact h.elim
        | bool _ => exact h.elim
        | int _ => exact h.elim
        | bytes _ => exact h.elim
        | ref fd =>
          cases l1 with
          | nil => exact h.elim
          | cons a2 l2 =>
            cases a2 with
            | none => exact h.elim
            | bool _ => exact h.elim
            | bytes _ => exact h.elim
            | ref _ => exact h.elim
            | int dep =>
              cases l2 with
              | cons _ _ => exact h.elim
              | nil => exact ⟨_, _, _, rfl, h⟩
theorem pageInit_ok (D : Ad) (hD : D.movesInitS = movesInitS D.cM) : ∀ args H P, pageInitS D.cM D.cP args H P → args.length = 3 ∧ m_pageInit D (startLoc args 0) H (fun fl _ H' => match fl with | .ret v => P v H' | .next => P .none H' | _ => False) := by
  intro args H P h
  obtain ⟨pg, fd, dep, rfl, h⟩ := pageInitS_inv h
  · unfold pageInitS at h
    (try dsimp only at h)
    obtain ⟨rfl, dp, h1, h2, h3, h4, hP⟩ := h
    refine ⟨rfl, ?_⟩
    have npd : pg ≠ dp := ne_of_obj h1 h2 (by simp)
    have nfd : fd ≠ dp := ne_of_obj h3 h2 (by simp)
    unfold m_pageInit
    refine r_seq ?_
    try simp (disch := omega) only [k_next, l_z, sAssign, tAttr, mList, aNil, startLoc, List.map_cons, List.map_nil, List.replicate, List.cons_append, List.nil_append]
    refine ⟨by show 0 ≤ 1000; decide, fun o ho => ?_⟩
    have g1 : ∀ a, upd H o (.list []) a = none → H a = none := fun a => upd_none
    have K1 : Kp [dp] H (upd H o (.list [])) := Kp.new _ ho
    have p1 : upd H o (.list []) pg = some (.inst D.cP dp) := K1 _ _ h1 (by simp [npd])
    have f1 : upd H o (.list []) fd = some .edict := K1 _ _ h3 (by simp [nfd])
    have d1 : upd H o (.list []) dp = some (.attrs []) := by rw [upd_old _ ho (by rw [h2]; rfl)]; exact h2
    have o1 : upd H o (.list []) o = some (.list []) := upd_self _ _ _
    have nod : o ≠ dp := fun e => by rw [e, h2] at ho; cases ho
    generalize upd H o (.list []) = H1 at *
    rw [e_setAttr p1 d1 (by show 0 ≤ 100; decide)]
    have step : ∀ (Hc : AHeap) (fs : List (Str × AV)) (n : Str) (v : AV) (k : AHeap → Prop), Hc pg = some (.inst D.cP dp) → fs.length ≤ 100 → setAttrS D.cP n (.ref pg) v (upd Hc dp (.attrs fs)) k = k (upd Hc dp (.attrs (putA n v fs))) := by
      intro Hc fs n v k hp hz
      rw [e_setAttr (dx := dp) (fs := fs) (by rw [upd_ne _ _ npd]; exact hp) (upd_self _ _ _) hz, upd_upd]
    have e1 : putA "octets" (.ref o) [] = ([("octets", .ref o)] : List (Str × AV)) := rfl
    rw [e1]
    refine r_seq ?_
    try simp (disch := omega) only [k_next, l_z, l_s, sAssign, tAttr, mCall, aCons, aNil]
    refine ⟨by rw [upd_ne _ _ nfd]; exact f1, h4, fun f => ?_⟩
    dsimp only
    rw [step _ _ _ _ _ p1 (by show 1 ≤ 100; decide)]
    refine r_seq ?_
    try simp (disch := omega) only [k_next, l_z, l_s, sAssign, tAttr]
    rw [step _ _ _ _ _ p1 (by show 2 ≤ 100; decide)]
    refine r_seq ?_
    try simp (disch := omega) only [k_next, l_z, sAssign, tAttr, mConst]
    rw [step _ _ _ _ _ p1 (by show 3 ≤ 100; decide)]
    refine r_seq ?_
    try simp (disch := omega) only [k_next, l_z, sAssign, tAttr, mConst]
    rw [step _ _ _ _ _ p1 (by show 4 ≤ 100; decide)]
    refine r_seq ?_
    try simp (disch := omega) only [k_next, l_z, u_Neg, sAssign, tAttr, mConst, mUn]
    rw [step _ _ _ _ _ p1 (by show 5 ≤ 100; decide)]
    refine r_seq ?_
    try simp (disch := omega) only [k_next, l_z, sAssign, tAttr]
    rw [hD]
    generalize hfs : putA "font" (AV.int (-1)) _ = fs
    have K2 : Kp [dp] H1 (upd H1 dp (.attrs fs)) := Kp.upd _ (by simp)
    have d2 : upd H1 dp (.attrs fs) dp = some (.attrs fs) := upd_self _ _ _
    have p2 : upd H1 dp (.attrs fs) pg = some (.inst D.cP dp) := K2 _ _ p1 (by simp [npd])
    have o2 : upd H1 dp (.attrs fs) o = some (.list []) := K2 _ _ o1 (by simp [nod])
    have g2 : ∀ a, upd H1 dp (.attrs fs) a = none → H1 a = none := fun a => upd_none
    generalize upd H1 dp (.attrs fs) = H2 at *
    have hlen : fs.length = 6 := by rw [← hfs]; rfl
    refine new_moves fun H3 ac da la K3 M3 l3 n3 g3 => ?_
    have d3 := K3 _ _ d2 (by simp)
    have p3 := K3 _ _ p2 (by simp)
    have o3 := K3 _ _ o2 (by simp)
    rw [e_setAttr p3 d3 (by omega)]
    refine r_seq ?_
    try simp (disch := omega) only [k_next, l_z, sAssign, tAttr]
    have nda : da ≠ dp := ne_of_obj M3.2 d3 (by rw [← hfs]; intro e; injection e with e; injection e with e e2; injection e with e e2; revert e; decide)
    have nac : ac ≠ dp := ne_of_obj M3.1 d3 (by simp)
    have nla : la ≠ dp := ne_of_obj l3 d3 (by simp)
    have K4 : Kp [dp] H3 (upd H3 dp (.attrs (putA "across" (.ref ac) fs))) := Kp.upd _ (by simp)
    have d4 : upd H3 dp (.attrs (putA "across" (.ref ac) fs)) dp = some (.attrs (putA "across" (.ref ac) fs)) := upd_self _ _ _
    have p4 := K4 _ _ p3 (by simp [npd])
    have o4 := K4 _ _ o3 (by simp [nod])
    have M4 := M3.kp K4 (by simp [nac]) (by simp [nda])
    have l4 := K4 _ _ l3 (by simp [nla])
    have g4 : ∀ a, upd H3 dp (.attrs (putA "across" (.ref ac) fs)) a = none → H3 a = none := fun a => upd_none
    generalize upd H3 dp (.attrs (putA "across" (.ref ac) fs)) = H4 at *
    refine new_moves fun H5 dn dd ld K5 M5 l5 n5 g5 => ?_
    have d5 := K5 _ _ d4 (by simp)
    have p5 := K5 _ _ p4 (by simp)
    have o5 := K5 _ _ o4 (by simp)
    have A5 := M4.kp K5 (by simp) (by simp)
    have la5 := K5 _ _ l4 (by simp)
    have hl7 : (putA "across" (.ref ac) fs).length = 7 := by rw [← hfs]; rfl
    rw [e_setAttr p5 d5 (by omega)]
    refine r_seq ?_
    try simp (disch := omega) only [k_next, e_nil, l_z, sAssign, tAttr, mConst]
    rw [step _ _ _ _ _ p5 (by rw [← hfs]; show 8 ≤ 100; decide)]
    have efs : putA "deepest" (.int 0) (putA "down" (.ref dn) (putA "across" (.ref ac) fs)) = attrsOf ⟨pg, dp, o, f, ac, da, la, dn, dd, ld⟩ S0 := by rw [← hfs]; rfl
    rw [efs]
    have ndd : dd ≠ dp := ne_of_obj M5.2 d5 (by rw [← hfs]; intro e; injection e with e; injection e with e e2; injection e with e e2; revert e; decide)
    have ndn : dn ≠ dp := ne_of_obj M5.1 d5 (by simp)
    have nld : ld ≠ dp := ne_of_obj l5 d5 (by simp)
    have K6 : Kp [dp] H5 (upd H5 dp (.attrs (attrsOf ⟨pg, dp, o, f, ac, da, la, dn, dd, ld⟩ S0))) := Kp.upd _ (by simp)
    have no_la : o ≠ la := fun e => by rw [← e, o2] at n3; cases n3
    have no_ld : o ≠ ld := fun e => by rw [← e, o4] at n5; cases n5
    have nla_ld : la ≠ ld := fun e => by rw [← e, l4] at n5; cases n5
    have gg : ∀ a, upd H5 dp (.attrs (attrsOf ⟨pg, dp, o, f, ac, da, la, dn, dd, ld⟩ S0)) a = none → H a = none := fun a ha => g1 a (g2 a (g3 a (g4 a (g5 a (upd_none ha)))))
    refine hP _ ⟨pg, dp, o, f, ac, da, la, dn, dd, ld⟩ rfl rfl ?_ ?_ ?_ gg
    · exact {
        pg := K6 _ _ p5 (by simp [npd])
        dp := upd_self _ _ _
        ac := A5.kp K6 (by simp [nac]) (by simp [nda])
        dn := M5.kp K6 (by simp [ndn]) (by simp [ndd])
        la := K6 _ _ la5 (by simp [nla])
        ra := .nil
        ld := K6 _ _ l5 (by simp [nld])
        rd := .nil
        oc := K6 _ _ o5 (by simp [nod])
        nd := by simp [no_la, no_ld, nla_ld] }
    · exact ((((K1.trans K2).trans (K3.mono (by simp))).trans K4).trans (K5.mono (by simp))).trans K6
    · intro a ha
      simp only [List.mem_cons, List.not_mem_nil, or_false] at ha
      rcases ha with rfl | rfl | rfl
      · exact ho
      · exact g1 _ (g2 _ n3)
      · exact g1 _ (g2 _ (g3 _ (g4 _ n5)))
end
section
set_option genSizeOf false
set_option genSizeOfSpec false
set_option maxRecDepth 100000
set_option autoImplicit false
/-- a table of objects -/
inductive Tab {β : Type} (g : β → AObj) (H : AHeap) : List Addr → List β → Prop
  | nil : Tab g H [] []
  | cons {a : Addr} {b : β} {as : List Addr} {bs : List β} : H a = some (g b) → Tab g H as bs → Tab g H (a :: as) (b :: bs)
section
variable {β : Type} {g : β → AObj} {H H' : AHeap}
theorem Tab.length {as : List Addr} {bs : List β} (h : Tab g H as bs) : as.length = bs.length := by
  induction h with
  | nil => rfl
  | cons _ _ ih => simp [ih]
theorem Tab.append {as cs : List Addr} {bs ds : List β} (h : Tab g H as bs) (k : Tab g H cs ds) : Tab g H (as ++ cs) (bs ++ ds) := by
  induction h with
  | nil => exact k
  | cons e _ ih => exact .cons e ih
theorem Tab.split {bs ds : List β} : ∀ {as : List Addr}, Tab g H as (bs ++ ds) → ∃ xs ys, as = xs ++ ys ∧ Tab g H xs bs ∧ Tab g H ys ds := by
  induction bs with
  | nil => intro as h; exact ⟨[], as, rfl, .nil, h⟩
  | cons r rs ih =>
    intro as h
    cases h with
    | cons e h => obtain ⟨xs, ys, rfl, h1, h2⟩ := ih h; exact ⟨_ :: xs, ys, rfl, .cons e h1, h2⟩
theorem Tab.get {as : List Addr} {bs : List β} (h : Tab g H as bs) : ∀ {i : Nat} {b : β}, bs[i]? = some b → ∃ a, as[i]? = some a ∧ H a = some (g b) := by
  induction h with
  | nil => intro i r e; simp at e
  | cons e _ ih =>
    intro i r q
    cases i with
    | zero => simp at q; subst q; exact ⟨_, rfl, e⟩
    | succ i => simp at q; obtain ⟨a, h1, h2⟩ := ih q; exact ⟨a, by simpa using h1, h2⟩
theorem Tab.mem {as : List Addr} {bs : List β} (h : Tab g H as bs) : ∀ a ∈ as, ∃ b ∈ bs, H a = some (g b) := by
  induction h with
  | nil => intro a ha; cases ha
  | cons e _ ih =>
    intro a ha
    cases ha with
    | head => exact ⟨_, .head _, e⟩
    | tail _ ha => obtain ⟨b, h1, h2⟩ := ih a ha; exact ⟨b, .tail _ h1, h2⟩
theorem Tab.kp {X : List Addr} {as : List Addr} {bs : List β} (h : Tab g H as bs) (k : Kp X H H') (hd : ∀ a ∈ as, a ∉ X) : Tab g H' as bs := by
  induction h with
  | nil => exact .nil
  | cons e _ ih => exact .cons (k _ _ e (hd _ (.head _))) (ih fun a ha => hd a (.tail _ ha))
end
theorem sw2 (i j : Nat) (m : ME) (ρ : Loc) (H : AHeap) (P : PS) : sSwap [i, j] m ρ H P = m ρ H (fun v H => seqS v H 2 fun vs => tEach [tName j, tName i] vs.reverse ρ H fun ρ H => P .next ρ H) := rfl
theorem sw3 (i j k : Nat) (m : ME) (ρ : Loc) (H : AHeap) (P : PS) : sSwap [i, j, k] m ρ H P = m ρ H (fun v H => seqS v H 3 fun vs => tEach [tName k, tName j, tName i] vs.reverse ρ H fun ρ H => P .next ρ H) := rfl

noncomputable def law_takeS : Spec := fun args H P => match args with
  | [.ref b, .int k] => k = 8 ∧ ∃ c n m, H b = some (.list (intsV [c, n, m])) ∧ 0 ≤ c ∧ 0 ≤ n ∧ n ≤ 1000 ∧ 0 ≤ m ∧ m < 1000003 ∧
      ∀ c' n' d, 0 ≤ c' → 0 ≤ n' → n' ≤ n + 1 → 0 ≤ d → d < 8 → P (.int d) (upd H b (.list (intsV [c', n', m])))
  | _ => False
theorem fmod_bd (x : Int) {m : Int} (h : 0 < m) : 0 ≤ x.fmod m ∧ x.fmod m < m := by
  rw [Int.fmod_eq_emod_of_nonneg _ (Int.le_of_lt h)]
  exact ⟨Int.emod_nonneg _ (by omega), Int.emod_lt_of_pos _ h⟩
theorem law_takeS_inv {args : List AV} {H : AHeap} {P : AV → AHeap → Prop} (h : law_takeS args H P) : ∃ b k, args = [.ref b, .int k] ∧ law_takeS [.ref b, .int k] H P := by
  cases args with
  | nil => exact h.elim
  | cons a0 l0 =>
    cases a0 with
    | none => exact h.elim
    | bool _ => exact h.elim
    | int _ => exact h.elim
    | bytes _ => exact h.elim
    | ref b =>
      cases l0 with
      | nil => exact h.elim
      | cons a1 l1 =>
        cases a1 with
        | none => exact h.elim
        | bool _ => exact h.elim
        | bytes _ => exact h.elim
        | ref _ => exact h.elim
        | int k =>
          cases l1 with
          | cons _ _ => exact h.elim
          | nil => exact ⟨_, _, rfl, h⟩
theorem law_take_ok (D : Ad) : ∀ args H P, law_takeS args H P → args.length = 2 ∧ m_law_take D (startLoc args 2) H (fun fl _ H' => match fl with | .ret v => P v H' | .next => P .none H' | _ => False) := by
  intro args H P h
  obtain ⟨b, k, rfl, h⟩ := law_takeS_inv h
  · unfold law_takeS at h
    (try dsimp only at h)
    obtain ⟨rfl, c, n, m, hb, hc, hn, hn2, hm, hm2, hP⟩ := h
    refine ⟨rfl, ?_⟩
    have g0 : ∀ (x y z : Int) (H : AHeap), H b = some (.list (intsV [x, y, z])) → ∀ P, subS (.ref b) (.int 0) H P = P (.int x) H := fun x y z H h P => e_sub (.inl h) (by decide) (by show (0 : Int) ≤ 0; decide) rfl P
    have g1 : ∀ (x y z : Int) (H : AHeap), H b = some (.list (intsV [x, y, z])) → ∀ P, subS (.ref b) (.int 1) H P = P (.int y) H := fun x y z H h P => e_sub (.inl h) (by decide) (by show (0 : Int) ≤ 1; decide) rfl P
    have g2 : ∀ (x y z : Int) (H : AHeap), H b = some (.list (intsV [x, y, z])) → ∀ P, subS (.ref b) (.int 2) H P = P (.int z) H := fun x y z H h P => e_sub (.inl h) (by decide) (by show (0 : Int) ≤ 2; decide) rfl P
    unfold m_law_take
    refine r_seq ?_
    try simp (disch := omega) only [k_next, e_nil, e_sIf, l_z, b_Pow, mConst, mBin, tCmp, mSub, startLoc, List.map_cons, List.map_nil, List.replicate, List.cons_append, List.nil_append]
    rw [g0 _ _ _ _ hb]
    try simp (disch := omega) only [c_Ge, decide_eq_true_eq]
    split
    · refine r_seq ?_
      try simp (disch := omega) only [k_next, l_z, l_s, sAssign, tName, List.set_cons_zero, List.set_cons_succ, mConst, mBin, mSub]
      rw [g0 _ _ _ _ hb, b_Mod (by decide)]
      refine r_seq ?_
      try simp (disch := omega) only [k_next, l_z, l_s, sAssign, tSub, mConst, mBin, mSub]
      rw [g0 _ _ _ _ hb, b_Div (by decide), e_set hb (by show (0 : Int) ≤ 0 ∧ (0 : Int) < 3; decide) (by show 3 ≤ 1000000; decide)]
      refine r_seq ?_
      try simp (disch := omega) only [k_ret, l_z, l_s, sRet]
      have := fmod_bd c (m := 8) (by decide)
      refine hP (c.fdiv 8) n (c.fmod 8) ?_ hn (by omega) this.1 this.2
      rw [Int.fdiv_eq_ediv_of_nonneg _ (by decide)]
      exact Int.ediv_nonneg hc (by decide)
    · refine r_seq ?_
      try simp (disch := omega) only [k_next, l_z, sAssign, tSub, mConst, mBin, mSub]
      rw [g1 _ _ _ _ hb]
      try simp (disch := omega) only [b_Add]
      rw [e_set hb (by show (0 : Int) ≤ 1 ∧ (1 : Int) < 3; decide) (by show 3 ≤ 1000000; decide)]
      have hb' : upd H b (.list ((intsV [c, n, m]).set (1 : Int).toNat (.int (n + 1)))) b = some (.list (intsV [c, n + 1, m])) := by rw [upd_self]; rfl
      refine r_seq ?_
      try simp (disch := omega) only [k_next, l_z, sAssign, tName, List.set_cons_zero, List.set_cons_succ, mConst, mBin, mSub]
      rw [g2 _ _ _ _ hb', g1 _ _ _ _ hb', b_Mul (by omega)]
      try simp (disch := omega) only [b_Add, b_Mod, b_Pow]
      generalize hx : ((m + 7103 * (n + 1) + 20023) ^ (5 : Int).toNat).fmod 2147483647 = x
      have hxb := fmod_bd ((m + 7103 * (n + 1) + 20023) ^ (5 : Int).toNat) (m := 2147483647) (by decide)
      rw [hx] at hxb
      refine r_seq ?_
      try simp (disch := omega) only [k_ret, l_z, l_s, b_Mul, b_Div, b_Mod, sRet, mConst, mBin]
      have hxn : x.natAbs < 2 ^ 62 := by omega
      have hd := fmod_bd (((x * x).fmod 2147483563).fdiv 16) (m := 8) (by decide)
      try rw [b_Div (by decide)]
      try rw [b_Mod (by decide)]
      exact hP c (n + 1) _ hc (by omega) (by omega) hd.1 hd.2

structure Trip where
  what : Int
  aside : Int
  down : Int
noncomputable def tripO (t : Trip) : AObj := .tup (intsV [t.what, t.aside, t.down])
noncomputable def tripOk (t : Trip) : Prop := t.aside.natAbs ≤ 10000000 ∧ t.down.natAbs ≤ 10000000
noncomputable def law_boxS : Spec := fun args H P => match args with
  | [.ref s, .int k] => ∃ xs, H s = some (.list (intsV xs)) ∧ xs.length < 1000 ∧ 0 ≤ k ∧ k < 4 ∧ ∀ H' b c m, Kp [] H H' → H b = none → H' b = some (.list (intsV [c, 0, m])) → 0 ≤ c → 0 ≤ m → m < 1000003 → P (.ref b) H'
  | _ => False
noncomputable def stepsI (D : Ad) : MS := (sSeq (sSwap [6, 7, 8] (mTup (aCons (mCall D.law_takeS (aCons (mLoc 3) (aCons (mConst (.int 8)) aNil))) (aCons (mCall D.law_takeS (aCons (mLoc 3) (aCons (mConst (.int 8)) aNil))) (aCons (mCall D.law_takeS (aCons (mLoc 3) (aCons (mConst (.int 8)) aNil))) aNil)))))
  (sSeq (sAssign (tName 5) (mTup (aCons (mSub (mTup (aCons (mConst (.int 0)) (aCons (mConst (.int 5)) (aCons (mUn .USub (mConst (.int 7))) (aCons (mConst (.int 40)) (aCons (mConst (.int 300)) (aCons (mConst (.int 5)) (aCons (mConst (.int 40)) (aCons (mConst (.int 70000)) aNil))))))))) (mLoc 7)) (aCons (mSub (mTup (aCons (mConst (.int 0)) (aCons (mConst (.int 3)) (aCons (mUn .USub (mConst (.int 128))) (aCons (mConst (.int 20)) (aCons (mConst (.int 3)) (aCons (mConst (.int 20)) (aCons (mConst (.int 10000000)) (aCons (mUn .USub (mConst (.int 3))) aNil))))))))) (mLoc 8)) aNil))))
  (sSeq (sExpr (mLM .append (mLoc 1) (aCons (mTup (aCons (mSub (mTup (aCons (mConst (.int 0)) (aCons (mConst (.int 0)) (aCons (mConst (.int 0)) (aCons (mConst (.int 0)) (aCons (mConst (.int 0)) (aCons (mConst (.int 1)) (aCons (mConst (.int 2)) (aCons (mConst (.int 0)) aNil))))))))) (mLoc 6)) (aCons (mSub (mLoc 5) (mConst (.int 0))) (aCons (mSub (mLoc 5) (mConst (.int 1))) aNil)))) aNil)))
  sNil)))
noncomputable def stepsO (D : Ad) : MS := (sSeq (sAssign (tName 3) (mCall D.law_boxS (aCons (mLoc 0) (aCons (mLoc 2) aNil))))
  (sSeq (sForR (tName 4) (aCons (mConst (.int 6)) aNil)
  (sSeq (sSwap [6, 7, 8] (mTup (aCons (mCall D.law_takeS (aCons (mLoc 3) (aCons (mConst (.int 8)) aNil))) (aCons (mCall D.law_takeS (aCons (mLoc 3) (aCons (mConst (.int 8)) aNil))) (aCons (mCall D.law_takeS (aCons (mLoc 3) (aCons (mConst (.int 8)) aNil))) aNil)))))
  (sSeq (sAssign (tName 5) (mTup (aCons (mSub (mTup (aCons (mConst (.int 0)) (aCons (mConst (.int 5)) (aCons (mUn .USub (mConst (.int 7))) (aCons (mConst (.int 40)) (aCons (mConst (.int 300)) (aCons (mConst (.int 5)) (aCons (mConst (.int 40)) (aCons (mConst (.int 70000)) aNil))))))))) (mLoc 7)) (aCons (mSub (mTup (aCons (mConst (.int 0)) (aCons (mConst (.int 3)) (aCons (mUn .USub (mConst (.int 128))) (aCons (mConst (.int 20)) (aCons (mConst (.int 3)) (aCons (mConst (.int 20)) (aCons (mConst (.int 10000000)) (aCons (mUn .USub (mConst (.int 3))) aNil))))))))) (mLoc 8)) aNil))))
  (sSeq (sExpr (mLM .append (mLoc 1) (aCons (mTup (aCons (mSub (mTup (aCons (mConst (.int 0)) (aCons (mConst (.int 0)) (aCons (mConst (.int 0)) (aCons (mConst (.int 0)) (aCons (mConst (.int 0)) (aCons (mConst (.int 1)) (aCons (mConst (.int 2)) (aCons (mConst (.int 0)) aNil))))))))) (mLoc 6)) (aCons (mSub (mLoc 5) (mConst (.int 0))) (aCons (mSub (mLoc 5) (mConst (.int 1))) aNil)))) aNil)))
  sNil))))
  sNil))
theorem stepsI_run (D : Ad) (ρ : Loc) (H : AHeap) (K : PS) : stepsI D ρ H K = (sSeq (sSwap [6, 7, 8] (mTup (aCons (mCall D.law_takeS (aCons (mLoc 3) (aCons (mConst (.int 8)) aNil))) (aCons (mCall D.law_takeS (aCons (mLoc 3) (aCons (mConst (.int 8)) aNil))) (aCons (mCall D.law_takeS (aCons (mLoc 3) (aCons (mConst (.int 8)) aNil))) aNil)))))
  (sSeq (sAssign (tName 5) (mTup (aCons (mSub (mTup (aCons (mConst (.int 0)) (aCons (mConst (.int 5)) (aCons (mUn .USub (mConst (.int 7))) (aCons (mConst (.int 40)) (aCons (mConst (.int 300)) (aCons (mConst (.int 5)) (aCons (mConst (.int 40)) (aCons (mConst (.int 70000)) aNil))))))))) (mLoc 7)) (aCons (mSub (mTup (aCons (mConst (.int 0)) (aCons (mConst (.int 3)) (aCons (mUn .USub (mConst (.int 128))) (aCons (mConst (.int 20)) (aCons (mConst (.int 3)) (aCons (mConst (.int 20)) (aCons (mConst (.int 10000000)) (aCons (mUn .USub (mConst (.int 3))) aNil))))))))) (mLoc 8)) aNil))))
  (sSeq (sExpr (mLM .append (mLoc 1) (aCons (mTup (aCons (mSub (mTup (aCons (mConst (.int 0)) (aCons (mConst (.int 0)) (aCons (mConst (.int 0)) (aCons (mConst (.int 0)) (aCons (mConst (.int 0)) (aCons (mConst (.int 1)) (aCons (mConst (.int 2)) (aCons (mConst (.int 0)) aNil))))))))) (mLoc 6)) (aCons (mSub (mLoc 5) (mConst (.int 0))) (aCons (mSub (mLoc 5) (mConst (.int 1))) aNil)))) aNil)))
  sNil))) ρ H K := rfl
theorem stepsO_run (D : Ad) (ρ : Loc) (H : AHeap) (K : PS) : stepsO D ρ H K = (sSeq (sAssign (tName 3) (mCall D.law_boxS (aCons (mLoc 0) (aCons (mLoc 2) aNil))))
  (sSeq (sForR (tName 4) (aCons (mConst (.int 6)) aNil)
  (stepsI D))
  sNil)) ρ H K := rfl
end
section
set_option genSizeOf false
set_option genSizeOfSpec false
set_option maxRecDepth 100000
set_option autoImplicit false
theorem menu_sub {n : Addr} {vs : List AV} {d : Int} {H : AHeap} {P : AV → AHeap → Prop} (ws : List Int) (h : H n = some (.tup vs)) (hvs : vs = intsV ws) (h0 : 0 ≤ d) (h1 : d < ws.length) (hz : ws.length ≤ 1000) (k : ∀ w ∈ ws, P (.int w) H) : subS (.ref n) (.int d) H P := by
  subst hvs
  have hlt : d.toNat < ws.length := by omega
  have ei : idxOf (intsV ws).length d = d := by unfold idxOf; rw [if_neg (by omega)]
  rw [e_sub (v := .int ws[d.toNat]) (.inr h) (by omega) (by rw [ei]; omega) (by rw [ei]; unfold intsV; rw [List.getElem?_map, List.getElem?_eq_getElem hlt]; rfl)]
  exact k _ (List.getElem_mem hlt)
structure Inn (H : AHeap) (l b : Addr) (as : List Addr) (ts : List Trip) (c cnt m : Int) : Prop where
  hl : H l = some (.list (as.map .ref))
  tab : Tab tripO H as ts
  hb : H b = some (.list (intsV [c, cnt, m]))
theorem Inn.new {H : AHeap} {l b n : Addr} {as : List Addr} {ts : List Trip} {c cnt m : Int} {o : AObj} (h : Inn H l b as ts c cnt m) (hn : H n = none) : Inn (upd H n o) l b as ts c cnt m :=
  ⟨Kp.new (X := []) o hn _ _ h.hl (by simp), h.tab.kp (Kp.new (X := []) o hn) (by simp), Kp.new (X := []) o hn _ _ h.hb (by simp)⟩
theorem steps_inner (D : Ad) (hD : D.law_takeS = law_takeS) (s x2 : Option AV) (l b : Addr) (P : PS) (hlb : l ≠ b) : ∀ (n : Nat) (i : Int) (H : AHeap) (as : List Addr) (ts : List Trip) (c cnt m : Int) (x4 x5 x6 x7 x8 : Option AV),
    Inn H l b as ts c cnt m → 0 ≤ c → 0 ≤ cnt → cnt + 3 * n ≤ 900 → 0 ≤ m → m < 1000003 → ts.length + n < 1000 → (∀ t ∈ ts, tripOk t) →
    (∀ H' as' ts' x4 x5 x6 x7 x8, Kp [l, b] H H' → (∀ a, H' a = none → H a = none) → H' l = some (.list (as'.map .ref)) → Tab tripO H' as' ts' → ts'.length = ts.length + n → (∀ t ∈ ts', tripOk t) → P .next [s, some (.ref l), x2, some (.ref b), x4, x5, x6, x7, x8] H') →
    forR (tName 4) (stepsI D) (upList i n) [s, some (.ref l), x2, some (.ref b), x4, x5, x6, x7, x8] H P := by
  intro n
  have ht : ∀ (b : Addr) (H : AHeap) (P : AV → AHeap → Prop), D.law_takeS [.ref b, .int 8] H P = law_takeS [.ref b, .int 8] H P := fun b H P => by rw [hD]
  induction n with
  | zero =>
    intro i H as ts c cnt m x4 x5 x6 x7 x8 I h1 h2 h3 h4 h5 h6 h7 hP
    exact hP H as ts _ _ _ _ _ (Kp.refl _ _) (fun a ha => ha) I.hl I.tab rfl h7
  | succ n ih =>
    intro i H as ts c cnt m x4 x5 x6 x7 x8 I h1 h2 h3 h4 h5 h6 h7 hP
    unfold upList forR
    try simp (disch := omega) only [tName, List.set_cons_zero, List.set_cons_succ]
    rw [stepsI_run]
    refine r_seq ?_
    rw [sw3]
    try simp (disch := omega) only [k_next, l_z, l_s, mConst, mCall, mTup, aCons, aNil]
    rw [ht]
    refine ⟨rfl, c, cnt, m, I.hb, h1, h2, by omega, h4, h5, fun c1 n1 d1 a1 a2 a3 a4 a5 => ?_⟩
    dsimp only
    rw [ht]
    refine ⟨rfl, c1, n1, m, upd_self _ _ _, a1, a2, by omega, h4, h5, fun c2 n2 d2 b1 b2 b3 b4 b5 => ?_⟩
    dsimp only
    rw [ht]
    refine ⟨rfl, c2, n2, m, upd_self _ _ _, b1, b2, by omega, h4, h5, fun c3 n3 d3 e1 e2 e3 e4 e5 => ?_⟩
    dsimp only
    rw [upd_upd, upd_upd]
    have K1 : Kp [b] H (upd H b (.list (intsV [c3, n3, m]))) := Kp.upd _ (by simp)
    have I1 : Inn (upd H b (.list (intsV [c3, n3, m]))) l b as ts c3 n3 m := ⟨K1 _ _ I.hl (by simp [hlb]), I.tab.kp K1 (fun a ha => by
      obtain ⟨t, _, q⟩ := I.tab.mem a ha
      simp; exact ne_of_obj q I.hb (by simp [tripO])), upd_self _ _ _⟩
    have g1 : ∀ a, upd H b (.list (intsV [c3, n3, m])) a = none → H a = none := fun a => upd_none
    generalize upd H b (.list (intsV [c3, n3, m])) = H1 at K1 I1 g1
    refine ⟨by show 3 ≤ 1000; decide, fun y0 hy0 => ?_⟩
    generalize hEHa : upd H1 y0 (.tup _) = Ha
    have fHa := (congrFun hEHa y0).symm
    rw [upd_self] at fHa
    have KHa : Kp [] H1 Ha := by rw [← hEHa]; exact Kp.new _ hy0
    have gHa : ∀ a, Ha a = none → H1 a = none := fun a ha => by rw [← hEHa] at ha; exact upd_none ha
    clear hEHa
    rw [e_seqL (n := 3) (.inr fHa) rfl]
    show tEach [tName 8, tName 7, tName 6] [.int d3, .int d2, .int d1] _ _ _
    try simp (disch := omega) only [tName, te_c, te_n, List.set_cons_zero, List.set_cons_succ]
    refine r_seq ?_
    try simp (disch := omega) only [k_next, l_z, l_s, u_Neg, sAssign, tName, List.set_cons_zero, List.set_cons_succ, mConst, mUn, mTup, mSub, aCons, aNil]
    refine ⟨by show 8 ≤ 1000; decide, fun y1 hy1 => ?_⟩
    generalize hEHb : upd Ha y1 (.tup _) = Hb
    have fHb := (congrFun hEHb y1).symm
    rw [upd_self] at fHb
    have KHb : Kp [] Ha Hb := by rw [← hEHb]; exact Kp.new _ hy1
    have gHb : ∀ a, Hb a = none → Ha a = none := fun a ha => by rw [← hEHb] at ha; exact upd_none ha
    clear hEHb
    refine menu_sub [0, 5, -7, 40, 300, 5, 40, 70000] fHb rfl b4 b5 (by decide) fun w1 hw1 => ?_
    refine ⟨by show 8 ≤ 1000; decide, fun y2 hy2 => ?_⟩
    generalize hEHc : upd Hb y2 (.tup _) = Hc
    have fHc := (congrFun hEHc y2).symm
    rw [upd_self] at fHc
    have KHc : Kp [] Hb Hc := by rw [← hEHc]; exact Kp.new _ hy2
    have gHc : ∀ a, Hc a = none → Hb a = none := fun a ha => by rw [← hEHc] at ha; exact upd_none ha
    clear hEHc
    refine menu_sub [0, 3, -128, 20, 3, 20, 10000000, -3] fHc rfl e4 e5 (by decide) fun w2 hw2 => ?_
    refine ⟨by show 2 ≤ 1000; decide, fun y3 hy3 => ?_⟩
    generalize hEHd : upd Hc y3 (.tup _) = Hd
    have fHd := (congrFun hEHd y3).symm
    rw [upd_self] at fHd
    have KHd : Kp [] Hc Hd := by rw [← hEHd]; exact Kp.new _ hy3
    have gHd : ∀ a, Hd a = none → Hc a = none := fun a ha => by rw [← hEHd] at ha; exact upd_none ha
    clear hEHd
    refine r_seq ?_
    try simp (disch := omega) only [k_next, e_nil, t_next, l_z, l_s, e_lm, sExpr]
    have K2 : Kp [] H1 Hd := ((KHa.trans KHb).trans KHc).trans KHd
    rw [e_lmH (K2 _ _ I1.hl (by simp))]
    try simp (disch := omega) only [l_z, l_s, mConst, mTup, mSub, aCons, aNil]
    refine ⟨by show 8 ≤ 1000; decide, fun y4 hy4 => ?_⟩
    generalize hEHe : upd Hd y4 (.tup _) = He
    have fHe := (congrFun hEHe y4).symm
    rw [upd_self] at fHe
    have KHe : Kp [] Hd He := by rw [← hEHe]; exact Kp.new _ hy4
    have gHe : ∀ a, He a = none → Hd a = none := fun a ha => by rw [← hEHe] at ha; exact upd_none ha
    clear hEHe
    refine menu_sub [0, 0, 0, 0, 0, 1, 2, 0] fHe rfl a4 a5 (by decide) fun w0 hw0 => ?_
    have fd := KHe _ _ fHd (by simp)
    rw [e_sub (v := .int w1) (.inr fd) (by decide) (by show (0 : Int) ≤ 0; decide) rfl, e_sub (v := .int w2) (.inr fd) (by decide) (by show (0 : Int) ≤ 1; decide) rfl]
    refine ⟨by show 3 ≤ 1000; decide, fun y5 hy5 => ?_⟩
    generalize hEHf : upd He y5 (.tup _) = Hf
    have fHf := (congrFun hEHf y5).symm
    rw [upd_self] at fHf
    have KHf : Kp [] He Hf := by rw [← hEHf]; exact Kp.new _ hy5
    have gHf : ∀ a, Hf a = none → He a = none := fun a ha => by rw [← hEHf] at ha; exact upd_none ha
    clear hEHf
    have K3 : Kp [] H1 Hf := (K2.trans KHe).trans KHf
    have lf := K3 _ _ I1.hl (by simp)
    have bf := K3 _ _ I1.hb (by simp)
    have tf := I1.tab.kp K3 (by simp)
    have lenT := tf.length
    rw [e_append lf (by simp; unfold LIM; omega)]
    have w1b : w1.natAbs ≤ 10000000 := (show ∀ w ∈ ([0, 5, -7, 40, 300, 5, 40, 70000] : List Int), w.natAbs ≤ 10000000 by decide) w1 hw1
    have w2b : w2.natAbs ≤ 10000000 := (show ∀ w ∈ ([0, 3, -128, 20, 3, 20, 10000000, -3] : List Int), w.natAbs ≤ 10000000 by decide) w2 hw2
    have K4 : Kp [l] Hf (upd Hf l (.list (as.map AV.ref ++ [.ref y5]))) := Kp.upd _ (by simp)
    have y5l : y5 ≠ l := ne_of_obj fHf lf (by simp)
    have y5n : H1 y5 = none := gHa _ (gHb _ (gHc _ (gHd _ (gHe _ hy5))))
    refine ih (i + 1) _ (as ++ [y5]) (ts ++ [⟨w0, w1, w2⟩]) c3 n3 m _ _ _ _ _ ⟨by rw [upd_self, List.map_append]; rfl, ?_, K4 _ _ bf (by simp [Ne.symm hlb])⟩ e1 e2 (by omega) h4 h5 (by simp; omega) ?_ ?_
    · refine (tf.kp K4 fun a ha => ?_).append (.cons (K4 _ _ fHf (by simp [y5l])) .nil)
      obtain ⟨t, _, q⟩ := tf.mem a ha
      simp; exact ne_of_obj q lf (by simp [tripO])
    · intro t ht'
      rcases List.mem_append.mp ht' with q | q
      · exact h7 t q
      · simp at q; subst q; exact ⟨w1b, w2b⟩
    · intro H' as' ts' x4 x5 x6 x7 x8 Kf gf hl' tab' hlen hok
      refine hP H' as' ts' _ _ _ _ _ ?_ (fun a ha => ?_) hl' tab' (by rw [hlen]; simp; omega) hok
      · exact ((K1.mono (by simp)).trans ((K3.mono (by simp)).trans (K4.mono (by simp)))).trans Kf
      · exact g1 _ (gHa _ (gHb _ (gHc _ (gHd _ (gHe _ (gHf _ (upd_none (gf a ha))))))))
end
section
set_option genSizeOf false
set_option genSizeOfSpec false
set_option maxRecDepth 100000
set_option autoImplicit false
theorem steps_outer (D : Ad) (hD : D.law_takeS = law_takeS) (hD2 : D.law_boxS = law_boxS) (s l : Addr) (xs : List Int) (hxs : xs.length < 1000) (P : PS) (hsl : s ≠ l) : ∀ (n : Nat) (i : Int) (H : AHeap) (as : List Addr) (ts : List Trip) (x2 x3 x4 x5 x6 x7 x8 : Option AV),
    H s = some (.list (intsV xs)) → H l = some (.list (as.map .ref)) → Tab tripO H as ts → 0 ≤ i → i + n ≤ 4 → ts.length + 6 * n ≤ 24 → (∀ t ∈ ts, tripOk t) →
    (∀ H' as' ts' ρ, Kp [l] H H' → (∀ a, H' a = none → H a = none) → H' l = some (.list (as'.map .ref)) → Tab tripO H' as' ts' → ts'.length = ts.length + 6 * n → (∀ t ∈ ts', tripOk t) → P .next (some (.ref s) :: some (.ref l) :: ρ) H') →
    forR (tName 2) (stepsO D) (upList i n) [some (.ref s), some (.ref l), x2, x3, x4, x5, x6, x7, x8] H P := by
  intro n
  have hb : ∀ (s : Addr) (k : Int) (H : AHeap) (P : AV → AHeap → Prop), D.law_boxS [.ref s, .int k] H P = law_boxS [.ref s, .int k] H P := fun s k H P => by rw [hD2]
  induction n with
  | zero =>
    intro i H as ts x2 x3 x4 x5 x6 x7 x8 hs hl T h0 h1 h2 h3 hP
    exact hP H as ts _ (Kp.refl _ _) (fun a ha => ha) hl T (by omega) h3
  | succ n ih =>
    intro i H as ts x2 x3 x4 x5 x6 x7 x8 hs hl T h0 h1 h2 h3 hP
    unfold upList forR
    try simp (disch := omega) only [tName, List.set_cons_zero, List.set_cons_succ]
    rw [stepsO_run]
    refine r_seq ?_
    try simp (disch := omega) only [k_next, l_z, l_s, sAssign, tName, List.set_cons_zero, List.set_cons_succ, mCall, aCons, aNil]
    rw [hb]
    refine ⟨xs, hs, hxs, h0, by omega, fun H1 b c m K1 hbn hbv hc hm hm2 => ?_⟩
    have lb : l ≠ b := fun e => by rw [← e, hl] at hbn; cases hbn
    have sb : s ≠ b := fun e => by rw [← e, hs] at hbn; cases hbn
    refine r_seq ?_
    try simp (disch := omega) only [sForR, mConst, aCons, aNil, rangeS]
    refine ⟨by decide, by decide, ?_⟩
    show forR (tName 4) (stepsI D) (upList 0 6) _ _ _
    refine steps_inner D hD _ _ l b _ lb 6 0 H1 as ts c 0 m _ _ _ _ _ ⟨K1 _ _ hl (by simp), T.kp K1 (by simp), hbv⟩ hc (by decide) (by decide) hm hm2 (by omega) h3 fun H2 as2 ts2 x4 x5 x6 x7 x8 K2 g2 l2 T2 len2 ok2 => ?_
    try simp (disch := omega) only [k_next, e_nil, t_next]
    have ks : H2 s = some (.list (intsV xs)) := K2 _ _ (K1 _ _ hs (by simp)) (by simp [hsl, sb])
    have g12 : ∀ a, H2 a = none → H a = none := fun a ha => by
      have h1 := g2 a ha
      cases q : H a with
      | none => rfl
      | some o => rw [K1 _ _ q (by simp)] at h1; cases h1
    refine ih (i + 1) H2 as2 ts2 _ _ _ _ _ _ _ ks l2 T2 (by omega) (by omega) (by omega) ok2 fun H3 as3 ts3 ρ K3 g3 l3 T3 len3 ok3 => ?_
    refine hP H3 as3 ts3 ρ ?_ (fun a ha => g12 a (g3 a ha)) l3 T3 (by omega) ok3
    refine Kp.trans ?_ K3
    intro a o e na
    refine K2 a o (K1 a o e (by simp)) ?_
    simp only [List.mem_cons, List.not_mem_nil, or_false, not_or] at na ⊢
    exact ⟨na, fun q => by rw [q, hbn] at e; cases e⟩
noncomputable def law_stepsS : Spec := fun args H P => match args with
  | [.ref s] => ∃ xs, H s = some (.list (intsV xs)) ∧ xs.length < 1000 ∧ ∀ H' l as ts, Kp [] H H' → H' l = some (.list (as.map .ref)) → Tab tripO H' as ts → H l = none → ts.length = 24 → (∀ t ∈ ts, tripOk t) → P (.ref l) H'
  | _ => False
theorem law_stepsS_inv {args : List AV} {H : AHeap} {P : AV → AHeap → Prop} (h : law_stepsS args H P) : ∃ s, args = [.ref s] ∧ law_stepsS [.ref s] H P := by
  cases args with
  | nil => exact h.elim
  | cons a0 l0 =>
    cases a0 with
    | none => exact h.elim
    | bool _ => exact h.elim
    | int _ => exact h.elim
    | bytes _ => exact h.elim
    | ref s =>
      cases l0 with
      | cons _ _ => exact h.elim
      | nil => exact ⟨_, rfl, h⟩
theorem law_steps_ok (D : Ad) (hD : D.law_takeS = law_takeS) (hD2 : D.law_boxS = law_boxS) : ∀ args H P, law_stepsS args H P → args.length = 1 ∧ m_law_steps D (startLoc args 8) H (fun fl _ H' => match fl with | .ret v => P v H' | .next => P .none H' | _ => False) := by
  intro args H P h
  obtain ⟨s, rfl, h⟩ := law_stepsS_inv h
  · unfold law_stepsS at h
    (try dsimp only at h)
    obtain ⟨xs, hs, hxs, hP⟩ := h
    refine ⟨rfl, ?_⟩
    unfold m_law_steps
    refine r_seq ?_
    try simp (disch := omega) only [k_next, sAssign, tName, List.set_cons_zero, List.set_cons_succ, mList, aNil, startLoc, List.map_cons, List.map_nil, List.replicate, List.cons_append, List.nil_append]
    refine ⟨by show 0 ≤ 1000; decide, fun l hl => ?_⟩
    have hsl : s ≠ l := fun e => by rw [← e, hs] at hl; cases hl
    refine r_seq ?_
    show sForR (tName 2) _ (stepsO D) _ _ _
    try simp (disch := omega) only [sForR, mConst, aCons, aNil, rangeS]
    refine ⟨by decide, by decide, ?_⟩
    show forR (tName 2) (stepsO D) (upList 0 4) _ _ _
    refine steps_outer D hD hD2 s l xs hxs _ hsl 4 0 _ [] [] _ _ _ _ _ _ _ (Kp.new (X := []) _ hl _ _ hs (by simp)) (upd_self _ _ _) .nil (by decide) (by decide) (by decide) (by simp) fun H' as' ts' ρ K g hl' T hlen hok => ?_
    try simp (disch := omega) only [k_next]
    refine r_seq ?_
    try simp (disch := omega) only [k_ret, l_z, l_s, sRet]
    refine hP H' l as' ts' ?_ hl' T hl (by rw [hlen]; rfl) hok
    intro a o e _
    refine K a o (Kp.new (X := []) _ hl a o e (by simp)) ?_
    simp; rintro rfl; rw [hl] at e; cases e
end
section
set_option genSizeOf false
set_option genSizeOfSpec false
set_option maxRecDepth 100000
set_option autoImplicit false
noncomputable def foldB (acc : Int) : List Int → Int
  | [] => acc
  | x :: r => foldB (acc * 256 + x) r
noncomputable def signedV (xs : List Int) : Int := foldB 0 xs - (if 127 < xs.getD 0 0 then 256 ^ xs.length else 0)
theorem p_pos (k : Nat) : (0 : Int) < 256 ^ k := Int.pow_pos (by decide)
theorem mod_step (s M : Int) (hM : 0 < M) : s % (M * 256) = s / M % 256 * M + s % M := by
  have h1 : s / (M * 256) = s / M / 256 := (Int.ediv_ediv_of_nonneg (Int.le_of_lt hM)).symm
  rw [Int.emod_def s (M * 256), h1, Int.emod_def (s / M) 256, Int.emod_def s M, Int.sub_mul, Int.mul_comm (s / M) M, Int.mul_assoc M 256, Int.mul_comm M (256 * _)]
  omega
theorem foldB_bytes (s : Int) : ∀ (k : Nat) (acc : Int), foldB acc (bytesN s k) = acc * 256 ^ k + s % 256 ^ k
  | 0, acc => by show acc = acc * 1 + s % 1; rw [Int.mul_one, Int.emod_one, Int.add_zero]
  | k + 1, acc => by
    have hM := p_pos k
    rw [bytesN, foldB, foldB_bytes s k, Int.fdiv_eq_ediv_of_nonneg _ (Int.le_of_lt hM), Int.fmod_eq_emod_of_nonneg _ (by decide), Int.pow_succ, mod_step s _ hM, Int.add_mul, Int.mul_assoc, Int.mul_comm 256, Int.add_assoc]
theorem sign_one (s M : Int) (hM : 0 < M) (h1 : -(128 * M) ≤ s) (h2 : s < 128 * M) : s % (M * 256) - (if 127 < s / M % 256 then M * 256 else 0) = s := by
  by_cases hs : 0 ≤ s
  · have a1 : s / M < 128 := Int.ediv_lt_of_lt_mul hM h2
    have a0 : 0 ≤ s / M := Int.ediv_nonneg hs (Int.le_of_lt hM)
    rw [Int.emod_eq_of_lt a0 (by omega), if_neg (by omega), Int.sub_zero, Int.emod_eq_of_lt hs (by omega)]
  · have b1 : s / M < 0 := Int.ediv_lt_of_lt_mul hM (by omega)
    have b0 : -128 ≤ s / M := Int.le_ediv_of_mul_le hM (by omega)
    have b2 : s / M % 256 = s / M + 256 := by omega
    rw [b2, if_pos (by omega), ← Int.add_emod_right, Int.emod_eq_of_lt (by omega) (by omega)]
    omega
theorem signed_at (s : Int) (k : Nat) (h : s.natAbs < 128 * 256 ^ k) : signedV (bytesN s (k + 1)) = s := by
  have hM := p_pos k
  have hc : ((256 ^ k : Nat) : Int) = 256 ^ k := Int.natCast_pow 256 k
  unfold signedV
  rw [foldB_bytes, bytesN_length, bytesN, List.getD_cons_zero, Int.fdiv_eq_ediv_of_nonneg _ (Int.le_of_lt hM), Int.fmod_eq_emod_of_nonneg _ (by decide), Int.zero_mul, Int.zero_add, Int.pow_succ]
  generalize (256 : Int) ^ k = M at *
  exact sign_one s M hM (by omega) (by omega)
theorem signed_bytes (s : Int) (h : s.natAbs < 2147483648) : signedV (bytesN s (roomS s)) = s := by
  unfold roomS
  split
  · exact signed_at s 0 ‹_›
  split
  · exact signed_at s 1 ‹_›
  split
  · exact signed_at s 2 ‹_›
  · exact signed_at s 3 h

noncomputable def law_signedS : Spec := fun args H P => match args with
  | [.ref o] => ∃ xs, H o = some (.list (intsV xs)) ∧ xs ≠ [] ∧ xs.length ≤ 4 ∧ P (.int (signedV xs)) H
  | _ => False
noncomputable def sigB : MS := (sSeq (sAssign (tName 1) (mBin .Add (mBin .Mult (mLoc 1) (mConst (.int 256))) (mLoc 2))) sNil)
theorem sig_loop (o : Addr) (vs : List AV) (P : PS) (H : AHeap) (ho : H o = some (.list vs)) : ∀ (xs : List Int) (acc : Int) (x2 : Option AV), (∀ x2, P .next [some (.ref o), some (.int (foldB acc xs)), x2] H) → forL (tName 2) sigB o vs (intsV xs) [some (.ref o), some (.int acc), x2] H P := by
  intro xs
  induction xs with
  | nil => intro acc x2 h; exact ⟨ho, h _⟩
  | cons x r ih =>
    intro acc x2 h
    show forL (tName 2) sigB o vs (.int x :: intsV r) _ _ _
    unfold forL
    refine ⟨ho, ?_⟩
    try simp (disch := omega) only [tName, List.set_cons_zero, List.set_cons_succ]
    show sSeq _ _ _ _ _
    refine r_seq ?_
    try simp (disch := omega) only [k_next, e_nil, t_next, l_z, l_s, b_Add, b_Mul, sAssign, tName, List.set_cons_zero, List.set_cons_succ, mConst, mBin]
    exact ih _ _ h
theorem law_signedS_inv {args : List AV} {H : AHeap} {P : AV → AHeap → Prop} (h : law_signedS args H P) : ∃ o, args = [.ref o] ∧ law_signedS [.ref o] H P := by
  cases args with
  | nil => exact h.elim
  | cons a0 l0 =>
    cases a0 with
    | none => exact h.elim
    | bool _ => exact h.elim
    | int _ => exact h.elim
    | bytes _ => exact h.elim
    | ref o =>
      cases l0 with
      | cons _ _ => exact h.elim
      | nil => exact ⟨_, rfl, h⟩
theorem law_signed_ok (D : Ad) : ∀ args H P, law_signedS args H P → args.length = 1 ∧ m_law_signed D (startLoc args 2) H (fun fl _ H' => match fl with | .ret v => P v H' | .next => P .none H' | _ => False) := by
  intro args H P h
  obtain ⟨o, rfl, h⟩ := law_signedS_inv h
  · unfold law_signedS at h
    (try dsimp only at h)
    obtain ⟨xs, ho, hne, hz, hP⟩ := h
    refine ⟨rfl, ?_⟩
    unfold m_law_signed
    refine r_seq ?_
    try simp (disch := omega) only [k_next, sAssign, tName, List.set_cons_zero, List.set_cons_succ, mConst, startLoc, List.map_cons, List.map_nil, List.replicate, List.cons_append, List.nil_append]
    refine r_seq ?_
    try simp (disch := omega) only [l_z, sFor]
    refine ⟨_, ho, ?_⟩
    refine sig_loop o _ _ H ho xs 0 none fun x2 => ?_
    try simp (disch := omega) only [k_next]
    refine r_seq ?_
    try simp (disch := omega) only [k_ret, e_mIf, l_z, l_s, b_Sub, sRet, mConst, mBin, tCmp, mCall, mSub, aCons, aNil]
    obtain ⟨x, r, rfl⟩ := List.exists_cons_of_ne_nil hne
    rw [e_sub (v := .int x) (.inl ho) (by decide) (by show (0 : Int) ≤ 0; decide) rfl]
    try simp (disch := omega) only [c_Gt, decide_eq_true_eq]
    unfold signedV at hP
    rw [List.getD_cons_zero] at hP
    by_cases q : 127 < x
    · rw [if_pos q] at hP ⊢
      rw [e_len ho (by rw [intsV_length]; unfold LIM; omega), intsV_length, b_Pow (by omega)]
      try simp (disch := omega) only [b_Sub]
      rw [Int.toNat_natCast]
      exact hP
    · rw [if_neg q] at hP ⊢
      exact hP
theorem eq_nil {l n : Addr} {vs : List AV} {H : AHeap} {P : Bool → AHeap → Prop} (h : H l = some (.list vs)) (hn : H n = some (.list [])) (hz : vs.length ≤ LIM) (k : P (decide (vs = [])) H) : cmpS .Eq (.ref l) (.ref n) H P := by
  refine .inl ⟨vs, [], h, hn, .inr rfl, hz, by simp [LIM], ?_⟩
  have : (decide (vs.length = ([] : List AV).length) == true) = decide (vs = []) := by cases vs <;> simp
  rw [this]; exact k
theorem ne_nil {l n : Addr} {vs : List AV} {H : AHeap} {P : Bool → AHeap → Prop} (h : H l = some (.list vs)) (hn : H n = some (.list [])) (hz : vs.length ≤ LIM) (k : P (decide (vs ≠ [])) H) : cmpS .NotEq (.ref l) (.ref n) H P := by
  refine .inl ⟨vs, [], h, hn, .inr rfl, hz, by simp [LIM], ?_⟩
  have : (decide (vs.length = ([] : List AV).length) == false) = decide (vs ≠ []) := by cases vs <;> simp
  rw [this]; exact k
noncomputable def regOf (a sort : Nat) : Nat := 2 + 2 * a + (if 8 < sort then 1 else 0)
/-- what a move does to the six numbers -/
noncomputable def moveL (L : List Int) (a sort : Nat) (s : Int) : List Int :=
  let L1 := if 3 < sort then L.set (regOf a sort) s else L
  L1.set a (L1.getD a 0 + s)
noncomputable def law_moveS : Spec := fun args H P => match args with
  | [.int op, .ref ol, .ref st] => ∃ (a sort : Nat) (bs L : List Int), op = 143 + 14 * a + sort ∧ a < 2 ∧ sort < 14 ∧ H ol = some (.list (intsV bs)) ∧ H st = some (.list (intsV L)) ∧ L.length = 6 ∧ bs.length ≤ 4 ∧ ol ≠ st ∧
      ∀ H', Kp [st] H H' → (∀ b, H' b = none → H b = none) → H' st = some (.list (intsV (moveL L a sort (if bs = [] then L.getD (regOf a sort) 0 else signedV bs)))) → P .none H'
  | _ => False
theorem law_moveS_inv {args : List AV} {H : AHeap} {P : AV → AHeap → Prop} (h : law_moveS args H P) : ∃ op ol st, args = [.int op, .ref ol, .ref st] ∧ law_moveS [.int op, .ref ol, .ref st] H P := by
  cases args with
  | nil => exact h.elim
  | cons a0 l0 =>
    cases a0 with
    | none => exact h.elim
    | bool _ => exact h.elim
    | bytes _ => exact h.elim
    | ref _ => exact h.elim
    | int op =>
      cases l0 with
      | nil => exact h.elim
      | cons a1 l1 =>
        cases a1 with
        | none => exact h.elim
        | bool _ => exact h.elim
        | int _ => exact h.elim
        | bytes _ => exact h.elim
        | ref ol =>
          cases l1 with
          | nil => exact h.elim
          | cons a2 l2 =>
            cases a2 with
            | none => exact h.elim
            | bool _ => exact h.elim
            | int _ => exact h.elim
            | bytes _ => exact h.elim
            | ref st =>
              cases l2 with
              | cons _ _ => exact h.elim
              | nil => exact ⟨_, _, _, rfl, h⟩
theorem law_move_ok (D : Ad) (hD : D.law_signedS = law_signedS) : ∀ args H P, law_moveS args H P → args.length = 3 ∧ m_law_move D (startLoc args 4) H (fun fl _ H' => match fl with | .ret v => P v H' | .next => P .none H' | _ => False) := by
  intro args H P h
  obtain ⟨op, ol, st, rfl, h⟩ := law_moveS_inv h
  · unfold law_moveS at h
    (try dsimp only at h)
    obtain ⟨a, sort, bs, L, hop, ha, hs, hol, hst, hL, hbs, hne, hP⟩ := h
    refine ⟨rfl, ?_⟩
    have q1 : (op - 143).fdiv 14 = a := by rw [Int.fdiv_eq_ediv_of_nonneg _ (by decide)]; omega
    have q2 : (op - 143).fmod 14 = sort := by rw [Int.fmod_eq_emod_of_nonneg _ (by decide)]; omega
    unfold m_law_move
    refine r_seq ?_
    rw [sw2]
    try simp (disch := omega) only [k_next, l_z, b_Sub, b_Div, b_Mod, mConst, mBin, mTup, aCons, aNil, startLoc, List.map_cons, List.map_nil, List.replicate, List.cons_append, List.nil_append]
    rw [q1, q2]
    refine ⟨by show 2 ≤ 1000; decide, fun y0 hy0 => ?_⟩
    generalize hE : upd H y0 (.tup _) = Ha
    have fa := (congrFun hE y0).symm
    rw [upd_self] at fa
    have Ka : Kp [] H Ha := by rw [← hE]; exact Kp.new _ hy0
    have ga : ∀ b, Ha b = none → H b = none := fun b hb => by rw [← hE] at hb; exact upd_none hb
    clear hE
    rw [e_seqL (n := 2) (.inr fa) rfl]
    show tEach [tName 6, tName 5] [.int sort, .int a] _ _ _
    try simp (disch := omega) only [tName, te_c, te_n, List.set_cons_zero, List.set_cons_succ]
    refine r_seq ?_
    try simp (disch := omega) only [k_next, l_z, l_s, c_Gt, b_Add, b_Mul, e_intb, sAssign, tName, List.set_cons_zero, List.set_cons_succ, mConst, mBin, mCmp, mCall, aCons, aNil, decide_eq_true_eq]
    have er : (2 + 2 * (a : Int) + if (8 : Int) < sort then 1 else 0) = (regOf a sort : Nat) := by
      unfold regOf
      by_cases q : 8 < sort
      · have q' : (8 : Int) < sort := by omega
        rw [if_pos q, if_pos q']; omega
      · have q' : ¬ (8 : Int) < sort := by omega
        rw [if_neg q, if_neg q']; omega
    have hr : regOf a sort < 6 := by unfold regOf; split <;> omega
    simp only [er]
    generalize hrg : regOf a sort = r at hr hP
    refine r_seq ?_
    try simp (disch := omega) only [k_next, e_mIf, l_z, l_s, sAssign, tName, List.set_cons_zero, List.set_cons_succ, tCmp, mCall, mList, mSub, aCons, aNil]
    refine ⟨by show 0 ≤ 1000; decide, fun y1 hy1 => ?_⟩
    generalize hE : upd Ha y1 (.list _) = Hb
    have fb := (congrFun hE y1).symm
    rw [upd_self] at fb
    have Kb : Kp [] Ha Hb := by rw [← hE]; exact Kp.new _ hy1
    have gb : ∀ b, Hb b = none → Ha b = none := fun b hb => by rw [← hE] at hb; exact upd_none hb
    clear hE
    have KK : Kp [] H Hb := Ka.trans Kb
    have ol1 := KK _ _ hol (by simp)
    have st1 := KK _ _ hst (by simp)
    have gg : ∀ b, Hb b = none → H b = none := fun b hb => ga b (gb b hb)
    refine eq_nil ol1 fb (by rw [intsV_length]; unfold LIM; omega) ?_
    try simp (disch := omega) only [decide_eq_true_eq]
    have getr : ∀ (k : Nat) (M : List Int) (H : AHeap) (P : AV → AHeap → Prop), k < 6 → M.length = 6 → H st = some (.list (intsV M)) → subS (.ref st) (.int k) H P = P (.int (M.getD k 0)) H := by
      intro k M H P hk hM h
      have ei : idxOf (intsV M).length (k : Int) = k := by unfold idxOf; rw [if_neg (by omega)]
      refine e_sub (.inl h) (by omega) (by rw [ei]; omega) ?_ P
      rw [ei, Int.toNat_natCast]
      unfold intsV
      rw [List.getElem?_map, List.getD_eq_getElem?_getD, List.getElem?_eq_getElem (by omega)]; rfl
    have fin : ∀ v, v = (if bs = [] then L.getD r 0 else signedV bs) → seqK (sSeq (sIf (tCmp .Gt (mLoc 6) (mConst (.int 3))) (sSeq (sAssign (tSub (mLoc 2) (mLoc 3)) (mLoc 4)) sNil) sNil) (sSeq (sAssign (tSub (mLoc 2) (mLoc 5)) (mBin .Add (mSub (mLoc 2) (mLoc 5)) (mLoc 4))) sNil)) (fun fl _ H' => match fl with | .ret v => P v H' | .next => P .none H' | _ => False) .next
        [some (.int op), some (.ref ol), some (.ref st), some (.int r), some (.int v), some (.int a), some (.int sort)] Hb := by
      intro v hv
      rw [← hv] at hP
      rw [k_next]
      refine r_seq ?_
      try simp (disch := omega) only [k_next, e_nil, e_sIf, l_z, l_s, c_Gt, mConst, tCmp, decide_eq_true_eq]
      have tail : ∀ (L1 : List Int) (Hc : AHeap), L1 = (if 3 < sort then L.set r v else L) → Kp [st] H Hc → (∀ b, Hc b = none → H b = none) → Hc st = some (.list (intsV L1)) → sSeq (sAssign (tSub (mLoc 2) (mLoc 5)) (mBin .Add (mSub (mLoc 2) (mLoc 5)) (mLoc 4))) sNil [some (.int op), some (.ref ol), some (.ref st), some (.int r), some (.int v), some (.int a), some (.int sort)] Hc (fun fl _ H' => match fl with | .ret v => P v H' | .next => P .none H' | _ => False) := by
        intro L1 Hc hL1 Kc gc hc
        have hl1 : L1.length = 6 := by rw [hL1]; split <;> simp [hL]
        refine r_seq ?_
        try simp (disch := omega) only [k_next, e_nil, l_z, l_s, sAssign, tSub, mBin, mSub]
        rw [getr a L1 Hc _ (by omega) hl1 hc]
        try simp (disch := omega) only [b_Add]
        rw [e_set hc (by rw [intsV_length]; omega) (by rw [intsV_length, hl1]; decide)]
        have e5 : (intsV L1).set ((a : Nat) : Int).toNat (.int (L1.getD a 0 + v)) = intsV (moveL L a sort v) := by
          unfold moveL intsV
          rw [hrg, ← hL1, Int.toNat_natCast, List.map_set]
        rw [e5]
        exact hP _ (Kc.trans (Kp.upd _ (by simp))) (fun b hb => gc b (upd_none hb)) (upd_self _ _ _)
      by_cases q : 3 < sort
      · have q' : (3 : Int) < sort := by omega
        rw [if_pos q']
        refine r_seq ?_
        try simp (disch := omega) only [k_next, e_nil, l_z, l_s, sAssign, tSub]
        rw [e_set st1 (by rw [intsV_length]; omega) (by rw [intsV_length, hL]; decide)]
        have e5 : (intsV L).set ((r : Nat) : Int).toNat (.int v) = intsV (L.set r v) := by
          unfold intsV
          rw [Int.toNat_natCast, List.map_set]
        rw [e5]
        exact tail (L.set r v) _ (by rw [if_pos q]) ((KK.mono (by simp)).trans (Kp.upd _ (by simp))) (fun b hb => gg b (upd_none hb)) (upd_self _ _ _)
      · have q' : ¬ (3 : Int) < sort := by omega
        rw [if_neg q']
        exact tail L _ (by rw [if_neg q]) (KK.mono (by simp)) gg st1
    by_cases q : bs = []
    · have q' : intsV bs = [] := by rw [q]; rfl
      rw [if_pos q', getr r L _ _ hr hL st1]
      exact fin _ (by rw [if_pos q])
    · have q' : ¬ intsV bs = [] := fun e => q (by cases bs with | nil => rfl | cons x y => cases e)
      rw [if_neg q', hD]
      exact ⟨bs, ol1, q, hbs, fin _ (by rw [if_neg q])⟩
end
section
set_option genSizeOf false
set_option genSizeOfSpec false
set_option maxRecDepth 100000
set_option autoImplicit false
inductive Cmd where
  | push
  | pop
  | spec (k : Int)
  | mv (a sort : Nat) (s : Int)
noncomputable def tblP (sort : Nat) : Nat := if sort < 4 then sort + 1 else if sort = 4 then 0 else if sort < 9 then sort - 4 else sort - 9
noncomputable def encC : Cmd → List Int
  | .push => [141]
  | .pop => [142]
  | .spec k => [239, 1, k]
  | .mv a sort s => (143 + 14 * a + sort : Int) :: bytesN s (tblP sort)
noncomputable def encs (cs : List Cmd) : List Int := cs.flatMap encC
structure Out where
  k : Int
  h : Int
  v : Int
  ta : Int
  td : Int
structure Mac where
  cur : List Int
  kept : List (List Int)
  outs : List Out
  ta : Int
  td : Int
  deep : Int
  lp : Bool
noncomputable def mvOk (L : List Int) (a sort : Nat) (s : Int) : Bool := decide (a < 2 ∧ sort < 14) && (if tblP sort = 0 then decide (L.getD (regOf a sort) 0 = s) else decide (tblP sort = roomS s ∧ s.natAbs < 2147483648))
noncomputable def cstep (m : Mac) : Cmd → Option Mac
  | .push => some { m with kept := m.kept ++ [m.cur], deep := if ((m.kept.length + 1 : Nat) : Int) > m.deep then ((m.kept.length + 1 : Nat) : Int) else m.deep, lp := true }
  | .pop => if m.lp = true then none else match m.kept.getLast? with
    | none => none
    | some f => some { m with cur := f, kept := m.kept.dropLast, lp := false }
  | .spec k => some { m with outs := m.outs ++ [⟨k, m.cur.getD 0 0, m.cur.getD 1 0, m.ta, m.td⟩], ta := 0, td := 0, lp := false }
  | .mv a sort s => if mvOk m.cur a sort s = true then
      some { m with cur := moveL m.cur a sort s, ta := if a = 0 then m.ta + (1 + tblP sort) else m.ta, td := if a = 0 then m.td else m.td + (1 + tblP sort), lp := false }
    else none
noncomputable def crun (m : Mac) : List Cmd → Option Mac
  | [] => some m
  | c :: cs => match cstep m c with
    | none => none
    | some m' => crun m' cs
noncomputable def outO (x : Out) : AObj := .tup (intsV [x.k, x.h, x.v, x.ta, x.td])
structure RunAt (H0 H : AHeap) (o st kp rw tk : Addr) (ks rws : List Addr) (oct : List Int) (m : Mac) : Prop where
  hst : H st = some (.list (intsV m.cur))
  hkp : H kp = some (.list (ks.map .ref))
  hkt : Tab (fun L => .list (intsV L)) H ks m.kept
  hrw : H rw = some (.list (rws.map .ref))
  hrt : Tab outO H rws m.outs
  htk : H tk = some (.list (intsV [m.ta, m.td]))
  hoc : H o = some (.list (intsV oct))
  hnd : (o :: st :: kp :: rw :: tk :: ks).Nodup
  hlen : m.cur.length = 6 ∧ ∀ L ∈ m.kept, L.length = 6
  hk0 : Kp [] H0 H
  hfr : ∀ a ∈ st :: kp :: rw :: tk :: ks, H0 a = none
theorem kp_step {H0 H H' : AHeap} {X : List Addr} (k : Kp [] H0 H) (k' : Kp X H H') (h : ∀ x ∈ X, H0 x = none) : Kp [] H0 H' := fun a o e _ => k' a o (k a o e (by simp)) fun m => by rw [h a m] at e; cases e
theorem kp_fresh {H0 H : AHeap} (k : Kp [] H0 H) {n : Addr} (h : H n = none) : H0 n = none := by
  cases q : H0 n with
  | none => rfl
  | some o => rw [k n o q (by simp)] at h; cases h
noncomputable def runB (D : Ad) : MS := (sSeq (sSwap [9, 10] (mTup (aCons (mSub (mLoc 0) (mLoc 6)) (aCons (mBin .Add (mLoc 6) (mConst (.int 1))) aNil))))
  (sSeq (sAssign (tName 8) (mConst (.int 0)))
  (sSeq (sIf (tCmp .Eq (mLoc 9) (mConst (.int 141)))
  (sSeq (sExpr (mLM .append (mLoc 2) (aCons (mCall listS (aCons (mLoc 1) aNil)) aNil)))
  (sSeq (sAssign (tName 5) (mCall maxS (aCons (mLoc 5) (aCons (mCall lenS (aCons (mLoc 2) aNil)) aNil))))
  sNil))
  (sSeq (sIf (tAnd (tCmp .Eq (mLoc 9) (mConst (.int 142))) (tAnd (tCmp .NotEq (mLoc 2) (mList aNil)) (tAnd (tCmp .NotEq (mLoc 7) (mConst (.int 141))) tTrue)))
  (sSeq (sAssign (tName 1) (mLM .pop (mLoc 2) aNil))
  sNil)
  (sSeq (sIf (tCmp .Eq (mLoc 9) (mConst (.int 239)))
  (sSeq (sAssign (tName 8) (mConst (.int 2)))
  (sSeq (sExpr (mLM .append (mLoc 3) (aCons (mTup (aCons (mSub (mLoc 0) (mBin .Add (mLoc 10) (mConst (.int 1)))) (aCons (mSub (mLoc 1) (mConst (.int 0))) (aCons (mSub (mLoc 1) (mConst (.int 1))) (aCons (mSub (mLoc 4) (mConst (.int 0))) (aCons (mSub (mLoc 4) (mConst (.int 1))) aNil)))))) aNil)))
  (sSeq (sAssign (tName 4) (mList (aCons (mConst (.int 0)) (aCons (mConst (.int 0)) aNil))))
  sNil)))
  (sSeq (sIf (tChain .LtE .Lt (mConst (.int 143)) (mLoc 9) (mConst (.int 171)))
  (sSeq (sAssign (tName 8) (mSub (mTup (aCons (mConst (.int 1)) (aCons (mConst (.int 2)) (aCons (mConst (.int 3)) (aCons (mConst (.int 4)) (aCons (mConst (.int 0)) (aCons (mConst (.int 1)) (aCons (mConst (.int 2)) (aCons (mConst (.int 3)) (aCons (mConst (.int 4)) (aCons (mConst (.int 0)) (aCons (mConst (.int 1)) (aCons (mConst (.int 2)) (aCons (mConst (.int 3)) (aCons (mConst (.int 4)) aNil))))))))))))))) (mBin .Mod (mBin .Sub (mLoc 9) (mConst (.int 143))) (mConst (.int 14)))))
  (sSeq (sExpr (mCall D.law_moveS (aCons (mLoc 9) (aCons (mSlice (mLoc 0) (mLoc 10) (mBin .Add (mLoc 10) (mLoc 8))) (aCons (mLoc 1) aNil)))))
  (sSeq (sAugSub (mLoc 4) (mBin .FloorDiv (mBin .Sub (mLoc 9) (mConst (.int 143))) (mConst (.int 14))) (mBin .Add (mConst (.int 1)) (mLoc 8)))
  sNil)))
  (sSeq (sRet (mConst .none))
  sNil))
  sNil))
  sNil))
  sNil))
  (sSeq (sSwap [6, 7] (mTup (aCons (mBin .Add (mLoc 10) (mLoc 8)) (aCons (mLoc 9) aNil))))
  sNil))))
theorem runB_run (D : Ad) (ρ : Loc) (H : AHeap) (K : PS) : runB D ρ H K = (sSeq (sSwap [9, 10] (mTup (aCons (mSub (mLoc 0) (mLoc 6)) (aCons (mBin .Add (mLoc 6) (mConst (.int 1))) aNil))))
  (sSeq (sAssign (tName 8) (mConst (.int 0)))
  (sSeq (sIf (tCmp .Eq (mLoc 9) (mConst (.int 141)))
  (sSeq (sExpr (mLM .append (mLoc 2) (aCons (mCall listS (aCons (mLoc 1) aNil)) aNil)))
  (sSeq (sAssign (tName 5) (mCall maxS (aCons (mLoc 5) (aCons (mCall lenS (aCons (mLoc 2) aNil)) aNil))))
  sNil))
  (sSeq (sIf (tAnd (tCmp .Eq (mLoc 9) (mConst (.int 142))) (tAnd (tCmp .NotEq (mLoc 2) (mList aNil)) (tAnd (tCmp .NotEq (mLoc 7) (mConst (.int 141))) tTrue)))
  (sSeq (sAssign (tName 1) (mLM .pop (mLoc 2) aNil))
  sNil)
  (sSeq (sIf (tCmp .Eq (mLoc 9) (mConst (.int 239)))
  (sSeq (sAssign (tName 8) (mConst (.int 2)))
  (sSeq (sExpr (mLM .append (mLoc 3) (aCons (mTup (aCons (mSub (mLoc 0) (mBin .Add (mLoc 10) (mConst (.int 1)))) (aCons (mSub (mLoc 1) (mConst (.int 0))) (aCons (mSub (mLoc 1) (mConst (.int 1))) (aCons (mSub (mLoc 4) (mConst (.int 0))) (aCons (mSub (mLoc 4) (mConst (.int 1))) aNil)))))) aNil)))
  (sSeq (sAssign (tName 4) (mList (aCons (mConst (.int 0)) (aCons (mConst (.int 0)) aNil))))
  sNil)))
  (sSeq (sIf (tChain .LtE .Lt (mConst (.int 143)) (mLoc 9) (mConst (.int 171)))
  (sSeq (sAssign (tName 8) (mSub (mTup (aCons (mConst (.int 1)) (aCons (mConst (.int 2)) (aCons (mConst (.int 3)) (aCons (mConst (.int 4)) (aCons (mConst (.int 0)) (aCons (mConst (.int 1)) (aCons (mConst (.int 2)) (aCons (mConst (.int 3)) (aCons (mConst (.int 4)) (aCons (mConst (.int 0)) (aCons (mConst (.int 1)) (aCons (mConst (.int 2)) (aCons (mConst (.int 3)) (aCons (mConst (.int 4)) aNil))))))))))))))) (mBin .Mod (mBin .Sub (mLoc 9) (mConst (.int 143))) (mConst (.int 14)))))
  (sSeq (sExpr (mCall D.law_moveS (aCons (mLoc 9) (aCons (mSlice (mLoc 0) (mLoc 10) (mBin .Add (mLoc 10) (mLoc 8))) (aCons (mLoc 1) aNil)))))
  (sSeq (sAugSub (mLoc 4) (mBin .FloorDiv (mBin .Sub (mLoc 9) (mConst (.int 143))) (mConst (.int 14))) (mBin .Add (mConst (.int 1)) (mLoc 8)))
  sNil)))
  (sSeq (sRet (mConst .none))
  sNil))
  sNil))
  sNil))
  sNil))
  (sSeq (sSwap [6, 7] (mTup (aCons (mBin .Add (mLoc 10) (mLoc 8)) (aCons (mLoc 9) aNil))))
  sNil)))) ρ H K := rfl
noncomputable abbrev runT : MT := (tCmp .Lt (mLoc 6) (mCall lenS (aCons (mLoc 0) aNil)))
theorem moveL_length (L : List Int) (a sort : Nat) (s : Int) : (moveL L a sort s).length = L.length := by
  unfold moveL
  rw [List.length_set]
  split
  · rw [List.length_set]
  · rfl
theorem cstep_len {m m' : Mac} {c : Cmd} (h : cstep m c = some m') (hl : m.cur.length = 6 ∧ ∀ L ∈ m.kept, L.length = 6) : m'.cur.length = 6 ∧ ∀ L ∈ m'.kept, L.length = 6 := by
  cases c with
  | push =>
    injection h with h; subst h
    refine ⟨hl.1, fun L hL => ?_⟩
    rcases List.mem_append.mp hL with q | q
    · exact hl.2 L q
    · simp at q; rw [q]; exact hl.1
  | pop =>
    simp only [cstep] at h
    split at h
    · cases h
    split at h
    · cases h
    · rename_i f hf
      injection h with h; subst h
      exact ⟨hl.2 f (List.mem_of_getLast? hf), fun L hL => hl.2 L (List.dropLast_subset _ hL)⟩
  | spec k => injection h with h; subst h; exact hl
  | mv a sort s =>
    simp only [cstep] at h
    split at h
    · injection h with h; subst h
      exact ⟨by rw [moveL_length]; exact hl.1, hl.2⟩
    · cases h
theorem encC_ne (c : Cmd) : encC c ≠ [] := by cases c <;> simp [encC]
end
section
set_option genSizeOf false
set_option genSizeOfSpec false
set_option maxRecDepth 100000
set_option autoImplicit false
theorem e_subI {o : Addr} {xs : List Int} {H : AHeap} {i : Nat} {x : Int} (h : H o = some (.list (intsV xs)) ∨ H o = some (.tup (intsV xs))) (hx : xs[i]? = some x) (hz : xs.length ≤ LIM) (P : AV → AHeap → Prop) : subS (.ref o) (.int i) H P = P (.int x) H := by
  have hlt := (List.getElem?_eq_some_iff.mp hx).1
  have ei : idxOf (intsV xs).length (i : Int) = i := by unfold idxOf; rw [if_neg (by omega)]
  unfold LIM at hz
  refine e_sub h (by omega) (by rw [ei]; omega) ?_ P
  rw [ei, Int.toNat_natCast]
  unfold intsV
  rw [List.getElem?_map, hx]; rfl
section
variable {H0 H H' : AHeap} {o st kp rw tk : Addr} {ks rws : List Addr} {oct : List Int} {m : Mac}
theorem RunAt.keep (R : RunAt H0 H o st kp rw tk ks rws oct m) (K : Kp [] H H') : RunAt H0 H' o st kp rw tk ks rws oct m where
  hst := K _ _ R.hst (by simp)
  hkp := K _ _ R.hkp (by simp)
  hkt := R.hkt.kp K (by simp)
  hrw := K _ _ R.hrw (by simp)
  hrt := R.hrt.kp K (by simp)
  htk := K _ _ R.htk (by simp)
  hoc := K _ _ R.hoc (by simp)
  hnd := R.hnd
  hlen := R.hlen
  hk0 := R.hk0.trans K
  hfr := R.hfr
theorem RunAt.rwsn (R : RunAt H0 H o st kp rw tk ks rws oct m) {a : Addr} {vs : List AV} (h : H a = some (.list vs)) : a ∉ rws := fun q => by
  obtain ⟨b, _, e⟩ := R.hrt.mem a q
  rw [h] at e; cases e
end
noncomputable def tailB : MS := (sSeq (sSwap [6, 7] (mTup (aCons (mBin .Add (mLoc 10) (mLoc 8)) (aCons (mLoc 9) aNil)))) sNil)
theorem run_tail {H0 H : AHeap} {o st kp rw tk : Addr} {ks rws : List Addr} {oct : List Int} {m : Mac} (R : RunAt H0 H o st kp rw tk ks rws oct m) (deep pl last room op b : Int) (K : PS)
    (h : ∀ H', RunAt H0 H' o st kp rw tk ks rws oct m → (∀ a, H' a = none → H a = none) → K .next [some (.ref o), some (.ref st), some (.ref kp), some (.ref rw), some (.ref tk), some (.int deep), some (.int (b + room)), some (.int op), some (.int room), some (.int op), some (.int b)] H') :
    tailB [some (.ref o), some (.ref st), some (.ref kp), some (.ref rw), some (.ref tk), some (.int deep), some (.int pl), some (.int last), some (.int room), some (.int op), some (.int b)] H K := by
    unfold tailB
    refine r_seq ?_
    rw [sw2]
    try simp (disch := omega) only [k_next, e_nil, l_z, l_s, b_Add, mBin, mTup, aCons, aNil]
    refine ⟨by show 2 ≤ 1000; decide, fun y0 hy0 => ?_⟩
    generalize hEHa : upd H y0 (.tup _) = Ha
    have fHa := (congrFun hEHa y0).symm
    rw [upd_self] at fHa
    have KHa : Kp [] H Ha := by rw [← hEHa]; exact Kp.new _ hy0
    have gHa : ∀ a, Ha a = none → H a = none := fun a ha => by rw [← hEHa] at ha; exact upd_none ha
    clear hEHa
    rw [e_seqL (n := 2) (.inr fHa) rfl]
    show tEach [tName 7, tName 6] [.int op, .int (b + room)] _ _ _
    try simp (disch := omega) only [tName, te_c, te_n, List.set_cons_zero, List.set_cons_succ]
    exact h Ha (R.keep KHa) gHa
theorem run_push {H0 H : AHeap} {o st kp rw tk : Addr} {ks rws : List Addr} {oct : List Int} {m m' : Mac} (R : RunAt H0 H o st kp rw tk ks rws oct m) (hc : cstep m .push = some m') (hz : m.kept.length + 1 < LIM) (pl last room op b : Int) (K : PS)
    (h : ∀ H' ks', RunAt H0 H' o st kp rw tk ks' rws oct m' → (∀ a, H' a = none → H a = none) → K .next [some (.ref o), some (.ref st), some (.ref kp), some (.ref rw), some (.ref tk), some (.int m'.deep), some (.int pl), some (.int last), some (.int room), some (.int op), some (.int b)] H') :
    (sSeq (sExpr (mLM .append (mLoc 2) (aCons (mCall listS (aCons (mLoc 1) aNil)) aNil))) (sSeq (sAssign (tName 5) (mCall maxS (aCons (mLoc 5) (aCons (mCall lenS (aCons (mLoc 2) aNil)) aNil)))) sNil))
      [some (.ref o), some (.ref st), some (.ref kp), some (.ref rw), some (.ref tk), some (.int m.deep), some (.int pl), some (.int last), some (.int room), some (.int op), some (.int b)] H K := by
    have hl' := cstep_len hc R.hlen
    injection hc with hc
    subst hc
    have hkl := R.hkt.length
    refine r_seq ?_
    try simp (disch := omega) only [k_next, l_z, l_s, e_lm, sExpr]
    rw [e_lmH R.hkp]
    try simp (disch := omega) only [l_z, l_s, mCall, aCons, aNil]
    refine ⟨_, R.hst, by rw [intsV_length, R.hlen.1]; decide, fun n hn => ?_⟩
    dsimp only
    generalize hEHa : upd H n (.list _) = Ha
    have fHa := (congrFun hEHa n).symm
    rw [upd_self] at fHa
    have KHa : Kp [] H Ha := by rw [← hEHa]; exact Kp.new _ hn
    have gHa : ∀ a, Ha a = none → H a = none := fun a ha => by rw [← hEHa] at ha; exact upd_none ha
    clear hEHa
    have R' := R.keep KHa
    rw [e_append R'.hkp (by simp; omega)]
    have KK : Kp [kp] Ha (upd Ha kp (.list (ks.map AV.ref ++ [.ref n]))) := Kp.upd _ (by simp)
    have fk : upd Ha kp (.list (ks.map AV.ref ++ [.ref n])) kp = some (.list ((ks ++ [n]).map .ref)) := by rw [upd_self, List.map_append]; rfl
    have gk : ∀ a, upd Ha kp (.list (ks.map AV.ref ++ [.ref n])) a = none → Ha a = none := fun a => upd_none
    generalize upd Ha kp (.list (ks.map AV.ref ++ [.ref n])) = Hb at KK fk gk
    refine r_seq ?_
    try simp (disch := omega) only [k_next, e_nil, l_z, l_s, sAssign, tName, List.set_cons_zero, List.set_cons_succ, mCall, aCons, aNil]
    rw [e_len fk (by simp; omega)]
    try simp (disch := omega) only [e_max]
    have e : ((ks ++ [n]).map AV.ref).length = m.kept.length + 1 := by simp [hkl]
    rw [e]
    have nd := R.hnd
    have hn0 : H0 n = none := kp_fresh R.hk0 hn
    have nn : ∀ a x, H a = some x → a ≠ n := fun a x q e => by rw [e, hn] at q; cases q
    have nks : n ∉ ks := fun q => by
      obtain ⟨b, _, q2⟩ := R.hkt.mem n q
      exact nn _ _ q2 rfl
    simp only [List.nodup_cons, List.mem_cons, not_or] at nd
    obtain ⟨⟨a1, a2, a3, a4, a5⟩, ⟨b1, b2, b3, b4⟩, ⟨c1, c2, c3⟩, ⟨d1, d2⟩, e1, e2⟩ := nd
    have hkpn := nn _ _ R.hkp
    refine h Hb (ks ++ [n]) {
      hst := KK _ _ R'.hst (by simp [b1])
      hkp := fk
      hkt := (R'.hkt.kp KK fun a ha => by simp; rintro rfl; exact c3 ha).append (.cons (KK _ _ fHa (by simp [Ne.symm hkpn])) .nil)
      hrw := KK _ _ R'.hrw (by simp [Ne.symm c1])
      hrt := R'.hrt.kp KK fun a ha => by simp; rintro rfl; exact R'.rwsn R'.hkp ha
      htk := KK _ _ R'.htk (by simp [Ne.symm c2])
      hoc := KK _ _ R'.hoc (by simp [a2])
      hnd := ?_
      hlen := hl'
      hk0 := kp_step R'.hk0 KK fun x hx => by simp at hx; subst hx; exact R.hfr _ (by simp)
      hfr := ?_ } fun a ha => gHa a (gk a ha)
    · simp only [List.nodup_cons, List.mem_cons, not_or, List.nodup_append, List.mem_append, List.not_mem_nil, or_false]
      exact ⟨⟨a1, a2, a3, a4, a5, nn _ _ R.hoc⟩, ⟨b1, b2, b3, b4, nn _ _ R.hst⟩, ⟨c1, c2, c3, hkpn⟩, ⟨d1, d2, nn _ _ R.hrw⟩, ⟨e1, nn _ _ R.htk⟩, e2, ⟨by simp, List.nodup_nil⟩, fun a ha b hb => by subst hb; rintro rfl; exact nks ha⟩
    · intro a ha
      simp only [List.mem_cons, List.mem_append, List.not_mem_nil, or_false] at ha
      rcases ha with q | q | q | q | q | q
      · exact R.hfr a (by simp [q])
      · exact R.hfr a (by simp [q])
      · exact R.hfr a (by simp [q])
      · exact R.hfr a (by simp [q])
      · exact R.hfr a (by simp [q])
      · rw [q]; exact hn0
end
section
set_option genSizeOf false
set_option genSizeOfSpec false
set_option maxRecDepth 100000
set_option autoImplicit false
theorem run_pop {H0 H : AHeap} {o st kp rw tk : Addr} {ks rws : List Addr} {oct : List Int} {m m' : Mac} (R : RunAt H0 H o st kp rw tk ks rws oct m) (hc : cstep m .pop = some m') (hz : m.kept.length + 1 < LIM) (pl last room op b : Int) (K : PS)
    (h : ∀ H' st' ks', RunAt H0 H' o st' kp rw tk ks' rws oct m' → (∀ a, H' a = none → H a = none) → K .next [some (.ref o), some (.ref st'), some (.ref kp), some (.ref rw), some (.ref tk), some (.int m'.deep), some (.int pl), some (.int last), some (.int room), some (.int op), some (.int b)] H') :
    (sSeq (sAssign (tName 1) (mLM .pop (mLoc 2) aNil)) sNil) [some (.ref o), some (.ref st), some (.ref kp), some (.ref rw), some (.ref tk), some (.int m.deep), some (.int pl), some (.int last), some (.int room), some (.int op), some (.int b)] H K := by
    have hl' := cstep_len hc R.hlen
    simp only [cstep] at hc
    split at hc
    · cases hc
    split at hc
    · cases hc
    rename_i f hf
    injection hc with hc
    subst hc
    obtain ⟨k', hk'⟩ := List.getLast?_eq_some_iff.mp hf
    have hT := R.hkt
    rw [hk'] at hT
    obtain ⟨ks', xs, rfl, T1, T2⟩ := hT.split
    cases T2 with | @cons x _ _ _ hx T3 =>
    cases T3
    have hkl := T1.length
    have hkk : m.kept.length = k'.length + 1 := by rw [hk']; simp
    have hkp' : H kp = some (.list (ks'.map AV.ref ++ [.ref x])) := by rw [R.hkp, List.map_append]; rfl
    refine r_seq ?_
    try simp (disch := omega) only [k_next, e_nil, l_z, l_s, e_lm, sAssign, tName, List.set_cons_zero, List.set_cons_succ]
    rw [e_lmH hkp']
    try simp (disch := omega) only [aNil]
    rw [e_pop hkp' (by simp; omega)]
    have KK : Kp [kp] H (upd H kp (.list (ks'.map AV.ref))) := Kp.upd _ (by simp)
    have fk : upd H kp (.list (ks'.map AV.ref)) kp = some (.list (ks'.map .ref)) := upd_self _ _ _
    have gk : ∀ a, upd H kp (.list (ks'.map AV.ref)) a = none → H a = none := fun a => upd_none
    generalize upd H kp (.list (ks'.map AV.ref)) = Hb at KK fk gk
    have nd := R.hnd
    simp only [List.nodup_cons, List.mem_cons, not_or, List.nodup_append, List.mem_append, List.not_mem_nil, or_false] at nd
    obtain ⟨⟨a1, a2, a3, a4, a5, a6⟩, ⟨b1, b2, b3, b4, b5⟩, ⟨c1, c2, c3, c4⟩, ⟨d1, d2, d3⟩, ⟨e1, e2⟩, f1, _, f2⟩ := nd
    have hd : m.kept.dropLast = k' := by rw [hk']; simp
    refine h Hb x ks' {
      hst := KK _ _ hx (by simp [Ne.symm c4])
      hkp := fk
      hkt := ?_
      hrw := KK _ _ R.hrw (by simp [Ne.symm c1])
      hrt := R.hrt.kp KK fun a ha => by simp; rintro rfl; exact R.rwsn hkp' ha
      htk := KK _ _ R.htk (by simp [Ne.symm c2])
      hoc := KK _ _ R.hoc (by simp [a2])
      hnd := ?_
      hlen := hl'
      hk0 := kp_step R.hk0 KK fun x hx => by simp at hx; subst hx; exact R.hfr _ (by simp)
      hfr := ?_ } gk
    · dsimp only
      rw [hd]
      exact T1.kp KK fun a ha => by simp; rintro rfl; exact c3 ha
    · simp only [List.nodup_cons, List.mem_cons, not_or]
      exact ⟨⟨a6, a2, a3, a4, a5⟩, ⟨Ne.symm c4, Ne.symm d3, Ne.symm e2, fun q => f2 x q x rfl rfl⟩, ⟨c1, c2, c3⟩, ⟨d1, d2⟩, e1, f1⟩
    · intro a ha
      simp only [List.mem_cons] at ha
      rcases ha with q | q | q | q | q
      · exact R.hfr a (by simp [q])
      · exact R.hfr a (by simp [q])
      · exact R.hfr a (by simp [q])
      · exact R.hfr a (by simp [q])
      · exact R.hfr a (by simp [q])
theorem run_spec {H0 H : AHeap} {o st kp rw tk : Addr} {ks rws : List Addr} {oct : List Int} {m m' : Mac} {k : Int} (R : RunAt H0 H o st kp rw tk ks rws oct m) (hc : cstep m (.spec k) = some m') (hz : m.outs.length + 1 < LIM) (hz2 : oct.length ≤ LIM) (b : Nat) (hb : oct[b + 1]? = some k) (pl last room op : Int) (K : PS)
    (h : ∀ H' tk' rws', RunAt H0 H' o st kp rw tk' ks rws' oct m' → (∀ a, H' a = none → H a = none) → K .next [some (.ref o), some (.ref st), some (.ref kp), some (.ref rw), some (.ref tk'), some (.int m'.deep), some (.int pl), some (.int last), some (.int 2), some (.int op), some (.int b)] H') :
    (sSeq (sAssign (tName 8) (mConst (.int 2))) (sSeq (sExpr (mLM .append (mLoc 3) (aCons (mTup (aCons (mSub (mLoc 0) (mBin .Add (mLoc 10) (mConst (.int 1)))) (aCons (mSub (mLoc 1) (mConst (.int 0))) (aCons (mSub (mLoc 1) (mConst (.int 1))) (aCons (mSub (mLoc 4) (mConst (.int 0))) (aCons (mSub (mLoc 4) (mConst (.int 1))) aNil)))))) aNil))) (sSeq (sAssign (tName 4) (mList (aCons (mConst (.int 0)) (aCons (mConst (.int 0)) aNil)))) sNil))) [some (.ref o), some (.ref st), some (.ref kp), some (.ref rw), some (.ref tk), some (.int m.deep), some (.int pl), some (.int last), some (.int room), some (.int op), some (.int b)] H K := by
    have hl' := cstep_len hc R.hlen
    injection hc with hc
    subst hc
    have hrl := R.hrt.length
    refine r_seq ?_
    try simp (disch := omega) only [k_next, sAssign, tName, List.set_cons_zero, List.set_cons_succ, mConst]
    refine r_seq ?_
    try simp (disch := omega) only [k_next, l_z, l_s, e_lm, sExpr]
    rw [e_lmH R.hrw]
    try simp (disch := omega) only [l_z, l_s, b_Add, mConst, mBin, mTup, mSub, aCons, aNil]
    have hc6 := R.hlen.1
    have g0 : m.cur[0]? = some (m.cur.getD 0 0) := by rw [List.getD_eq_getElem?_getD, List.getElem?_eq_getElem (by omega)]; rfl
    have g1 : m.cur[1]? = some (m.cur.getD 1 0) := by rw [List.getD_eq_getElem?_getD, List.getElem?_eq_getElem (by omega)]; rfl
    have eb : (b : Int) + 1 = ((b + 1 : Nat) : Int) := by omega
    have z0 : ((0 : Nat) : Int) = 0 := rfl
    have z1 : ((1 : Nat) : Int) = 1 := rfl
    rw [eb, e_subI (.inl R.hoc) hb hz2, ← z0, e_subI (.inl R.hst) g0 (by rw [hc6]; decide), ← z1, e_subI (.inl R.hst) g1 (by rw [hc6]; decide), e_subI (xs := [m.ta, m.td]) (i := 0) (.inl R.htk) rfl (by show 2 ≤ 1000000; decide), e_subI (xs := [m.ta, m.td]) (i := 1) (.inl R.htk) rfl (by show 2 ≤ 1000000; decide)]
    refine ⟨by show 5 ≤ 1000; decide, fun n hn => ?_⟩
    generalize hEHa : upd H n (.tup _) = Ha
    have fHa := (congrFun hEHa n).symm
    rw [upd_self] at fHa
    have KHa : Kp [] H Ha := by rw [← hEHa]; exact Kp.new _ hn
    have gHa : ∀ a, Ha a = none → H a = none := fun a ha => by rw [← hEHa] at ha; exact upd_none ha
    clear hEHa
    have R' := R.keep KHa
    rw [e_append R'.hrw (by simp; omega)]
    have KK : Kp [rw] Ha (upd Ha rw (.list (rws.map AV.ref ++ [.ref n]))) := Kp.upd _ (by simp)
    have fk : upd Ha rw (.list (rws.map AV.ref ++ [.ref n])) rw = some (.list ((rws ++ [n]).map .ref)) := by rw [upd_self, List.map_append]; rfl
    have gk : ∀ a, upd Ha rw (.list (rws.map AV.ref ++ [.ref n])) a = none → Ha a = none := fun a => upd_none
    generalize upd Ha rw (.list (rws.map AV.ref ++ [.ref n])) = Hb at KK fk gk
    refine r_seq ?_
    try simp (disch := omega) only [k_next, e_nil, sAssign, tName, List.set_cons_zero, List.set_cons_succ, mConst, mList, aCons, aNil]
    refine ⟨by show 2 ≤ 1000; decide, fun t ht => ?_⟩
    generalize hEHc : upd Hb t (.list _) = Hc
    have fHc := (congrFun hEHc t).symm
    rw [upd_self] at fHc
    have KHc : Kp [] Hb Hc := by rw [← hEHc]; exact Kp.new _ ht
    have gHc : ∀ a, Hc a = none → Hb a = none := fun a ha => by rw [← hEHc] at ha; exact upd_none ha
    clear hEHc
    have nd := R.hnd
    simp only [List.nodup_cons, List.mem_cons, not_or] at nd
    obtain ⟨⟨a1, a2, a3, a4, a5⟩, ⟨b1, b2, b3, b4⟩, ⟨c1, c2, c3⟩, ⟨d1, d2⟩, e1, e2⟩ := nd
    have hnrw : n ≠ rw := fun e => by rw [e, R.hrw] at hn; cases hn
    have ht2 : H t = none := gHa _ (gk _ ht)
    have nt : ∀ a x, H a = some x → a ≠ t := fun a x q e => by rw [e, ht2] at q; cases q
    have ht0 : H0 t = none := kp_fresh R.hk0 ht2
    have ntk : t ∉ ks := fun q => by
      obtain ⟨b, _, q2⟩ := R.hkt.mem t q
      exact nt _ _ q2 rfl
    have K2 : Kp [rw] Ha Hc := KK.trans (KHc.mono (by simp))
    refine h Hc t (rws ++ [n]) {
      hst := K2 _ _ R'.hst (by simp [b2])
      hkp := K2 _ _ R'.hkp (by simp [c1])
      hkt := R'.hkt.kp K2 fun a ha => by simp; rintro rfl; exact d2 ha
      hrw := KHc _ _ fk (by simp)
      hrt := ((R'.hrt.kp K2 fun a ha => by simp; rintro rfl; exact R'.rwsn R'.hrw ha).append (.cons (K2 _ _ fHa (by simp [hnrw])) .nil))
      htk := fHc
      hoc := K2 _ _ R'.hoc (by simp [a3])
      hnd := ?_
      hlen := hl'
      hk0 := kp_step R'.hk0 K2 fun x hx => by simp at hx; subst hx; exact R.hfr _ (by simp)
      hfr := ?_ } fun a ha => gHa a (gk a (gHc a ha))
    · simp only [List.nodup_cons, List.mem_cons, not_or]
      exact ⟨⟨a1, a2, a3, nt _ _ R.hoc, a5⟩, ⟨b1, b2, nt _ _ R.hst, b4⟩, ⟨c1, nt _ _ R.hkp, c3⟩, ⟨nt _ _ R.hrw, d2⟩, ntk, e2⟩
    · intro a ha
      simp only [List.mem_cons] at ha
      rcases ha with q | q | q | q | q
      · exact R.hfr a (by simp [q])
      · exact R.hfr a (by simp [q])
      · exact R.hfr a (by simp [q])
      · rw [q]; exact ht0
      · exact R.hfr a (by simp [q])
end
section
set_option genSizeOf false
set_option genSizeOfSpec false
set_option maxRecDepth 100000
set_option autoImplicit false
theorem pickL_mid (a b c : List AV) : pickL (a ++ (b ++ c)) (some (a.length : Int)) (some ((a.length : Int) + b.length)) = b := by
  unfold pickL
  have e1 : clipAt (a ++ (b ++ c)).length (a.length : Int) = a.length := (clip_nn _ _).trans (Nat.min_eq_left (by rw [List.length_append]; exact Nat.le_add_right _ _))
  have e2 : clipAt (a ++ (b ++ c)).length ((a.length : Int) + b.length) = a.length + b.length := (clip_nn _ (a.length + b.length)).trans (Nat.min_eq_left (by rw [List.length_append, List.length_append, ← Nat.add_assoc]; exact Nat.le_add_right _ _))
  show List.take (clipAt (a ++ (b ++ c)).length ((a.length : Int) + b.length) - clipAt (a ++ (b ++ c)).length (a.length : Int)) (List.drop (clipAt (a ++ (b ++ c)).length (a.length : Int)) (a ++ (b ++ c))) = b
  rw [e1, e2, List.drop_left, Nat.add_sub_cancel_left, List.take_left]
theorem tbl_at : ∀ s, s < 14 → ([1, 2, 3, 4, 0, 1, 2, 3, 4, 0, 1, 2, 3, 4] : List Int)[s]? = some (tblP s : Int) := by decide
theorem tblP_le (s : Nat) (h : s < 14) : tblP s ≤ 4 := by unfold tblP; split; omega; split; omega; split <;> omega
theorem run_mv (D : Ad) (hD : D.law_moveS = law_moveS) {H0 H : AHeap} {o st kp rw tk : Addr} {ks rws : List Addr} {oct pre post : List Int} {m m' : Mac} {a sort : Nat} {s : Int} (R : RunAt H0 H o st kp rw tk ks rws oct m) (hc : cstep m (.mv a sort s) = some m') (hz2 : oct.length ≤ LIM)
    (hoct : oct = pre ++ (bytesN s (tblP sort) ++ post)) (b op : Int) (hb : b = pre.length) (hop : op = 143 + 14 * a + sort) (pl last room : Int) (K : PS)
    (h : ∀ H', RunAt H0 H' o st kp rw tk ks rws oct m' → (∀ a, H' a = none → H a = none) → K .next [some (.ref o), some (.ref st), some (.ref kp), some (.ref rw), some (.ref tk), some (.int m'.deep), some (.int pl), some (.int last), some (.int (tblP sort)), some (.int op), some (.int b)] H') :
    (sSeq (sAssign (tName 8) (mSub (mTup (aCons (mConst (.int 1)) (aCons (mConst (.int 2)) (aCons (mConst (.int 3)) (aCons (mConst (.int 4)) (aCons (mConst (.int 0)) (aCons (mConst (.int 1)) (aCons (mConst (.int 2)) (aCons (mConst (.int 3)) (aCons (mConst (.int 4)) (aCons (mConst (.int 0)) (aCons (mConst (.int 1)) (aCons (mConst (.int 2)) (aCons (mConst (.int 3)) (aCons (mConst (.int 4)) aNil))))))))))))))) (mBin .Mod (mBin .Sub (mLoc 9) (mConst (.int 143))) (mConst (.int 14)))))
  (sSeq (sExpr (mCall D.law_moveS (aCons (mLoc 9) (aCons (mSlice (mLoc 0) (mLoc 10) (mBin .Add (mLoc 10) (mLoc 8))) (aCons (mLoc 1) aNil)))))
  (sSeq (sAugSub (mLoc 4) (mBin .FloorDiv (mBin .Sub (mLoc 9) (mConst (.int 143))) (mConst (.int 14))) (mBin .Add (mConst (.int 1)) (mLoc 8)))
  sNil))) [some (.ref o), some (.ref st), some (.ref kp), some (.ref rw), some (.ref tk), some (.int m.deep), some (.int pl), some (.int last), some (.int room), some (.int op), some (.int b)] H K := by
    have hl' := cstep_len hc R.hlen
    simp only [cstep] at hc
    split at hc
    · rename_i hok
      injection hc with hc
      subst hc
      unfold mvOk at hok
      rw [Bool.and_eq_true, decide_eq_true_eq] at hok
      obtain ⟨⟨ha, hs⟩, hok⟩ := hok
      have q1 : (op - 143).fdiv 14 = a := by rw [Int.fdiv_eq_ediv_of_nonneg _ (by decide)]; omega
      have q2 : (op - 143).fmod 14 = sort := by rw [Int.fmod_eq_emod_of_nonneg _ (by decide)]; omega
      have nd := R.hnd
      simp only [List.nodup_cons, List.mem_cons, not_or] at nd
      obtain ⟨⟨a1, a2, a3, a4, a5⟩, ⟨b1, b2, b3, b4⟩, ⟨c1, c2, c3⟩, ⟨d1, d2⟩, e1, e2⟩ := nd
      refine r_seq ?_
      try simp (disch := omega) only [k_next, l_z, l_s, b_Sub, b_Mod, sAssign, tName, List.set_cons_zero, List.set_cons_succ, mConst, mBin, mTup, mSub, aCons, aNil]
      refine ⟨by show 14 ≤ 1000; decide, fun n hn => ?_⟩
      generalize hEHa : upd H n (.tup _) = Ha
      have fHa := (congrFun hEHa n).symm
      rw [upd_self] at fHa
      have KHa : Kp [] H Ha := by rw [← hEHa]; exact Kp.new _ hn
      have gHa : ∀ a, Ha a = none → H a = none := fun a ha => by rw [← hEHa] at ha; exact upd_none ha
      clear hEHa
      rw [q2, e_subI (xs := [1, 2, 3, 4, 0, 1, 2, 3, 4, 0, 1, 2, 3, 4]) (.inr fHa) (tbl_at sort hs) (by decide)]
      have R1 := R.keep KHa
      refine r_seq ?_
      unfold mSlice
      try simp (disch := omega) only [k_next, l_z, l_s, b_Add, sExpr, mBin, mCall, aCons, aNil]
      simp only [partS, sliceS]
      refine ⟨_, R1.hoc, by rw [intsV_length]; exact hz2, fun y hy => ?_⟩
      have hbl := bytesN_length s (tblP sort)
      have ep : pickL (intsV oct) (some b) (some (b + (tblP sort : Int))) = intsV (bytesN s (tblP sort)) := by
        have := pickL_mid (intsV pre) (intsV (bytesN s (tblP sort))) (intsV post)
        rw [intsV_length, intsV_length, hbl, ← intsV_append, ← intsV_append, ← hoct, ← hb] at this
        exact this
      rw [ep]
      generalize hEHb : upd Ha y (.list _) = Hb
      have fHb := (congrFun hEHb y).symm
      rw [upd_self] at fHb
      have KHb : Kp [] Ha Hb := by rw [← hEHb]; exact Kp.new _ hy
      have gHb : ∀ a, Hb a = none → Ha a = none := fun a ha => by rw [← hEHb] at ha; exact upd_none ha
      clear hEHb
      have R2 := R1.keep KHb
      rw [hD]
      have hy0 : H y = none := gHa _ hy
      have ny : ∀ a x, H a = some x → a ≠ y := fun a x q e => by rw [e, hy0] at q; cases q
      refine ⟨a, sort, bytesN s (tblP sort), m.cur, hop, ha, hs, fHb, R2.hst, R.hlen.1, by rw [hbl]; exact tblP_le sort hs, Ne.symm (ny _ _ R.hst), fun Hc Kc gc fc => ?_⟩
      have esz : (if bytesN s (tblP sort) = [] then m.cur.getD (regOf a sort) 0 else signedV (bytesN s (tblP sort))) = s := by
        by_cases q : tblP sort = 0
        · rw [if_pos q, decide_eq_true_eq] at hok
          rw [if_pos (by rw [q]; rfl)]; exact hok
        · rw [if_neg q, decide_eq_true_eq] at hok
          rw [if_neg (fun e => by rw [e] at hbl; exact q hbl.symm), hok.1]
          exact signed_bytes s hok.2
      rw [esz] at fc
      refine r_seq ?_
      unfold sAugSub
      try simp (disch := omega) only [k_next, e_nil, l_z, l_s, b_Add, b_Sub, b_Div, mConst, mBin]
      rw [q1]
      have tkc : Hc tk = some (.list (intsV [m.ta, m.td])) := Kc _ _ R2.htk (by simp [Ne.symm b3])
      have fin : ∀ (x : Int) (ta' td' : Int), ([m.ta, m.td] : List Int)[a]? = some x → [m.ta, m.td].set a (x + (1 + (tblP sort : Int))) = [ta', td'] → ta' = (if a = 0 then m.ta + (1 + (tblP sort : Int)) else m.ta) → td' = (if a = 0 then m.td else m.td + (1 + (tblP sort : Int))) →
          subS (.ref tk) (.int a) Hc fun old H => match old, AV.int (1 + (tblP sort : Int)) with
            | .int x, .int y => setS (.ref tk) (.int a) (.int (x + y)) H fun H => K .next [some (.ref o), some (.ref st), some (.ref kp), some (.ref rw), some (.ref tk), some (.int m.deep), some (.int pl), some (.int last), some (.int (tblP sort)), some (.int op), some (.int b)] H
            | _, _ => False := by
        intro x ta' td' hx hset h1 h2
        rw [e_subI (xs := [m.ta, m.td]) (.inl tkc) hx (by show 2 ≤ 1000000; decide)]
        dsimp only
        rw [e_set tkc (by rw [intsV_length]; show (0 : Int) ≤ a ∧ (a : Int) < 2; omega) (by show 2 ≤ 1000000; decide)]
        have e5 : (intsV [m.ta, m.td]).set ((a : Nat) : Int).toNat (.int (x + (1 + (tblP sort : Int)))) = intsV [ta', td'] := by
          rw [Int.toNat_natCast, ← hset]
          unfold intsV
          rw [List.map_set]
        rw [e5]
        have KK : Kp [tk] Hc (upd Hc tk (.list (intsV [ta', td']))) := Kp.upd _ (by simp)
        have Kall : Kp [st, tk] Hb (upd Hc tk (.list (intsV [ta', td']))) := (Kc.mono (by simp)).trans (KK.mono (by simp))
        refine h _ {
          hst := KK _ _ fc (by simp [b3])
          hkp := Kall _ _ R2.hkp (by simp [Ne.symm b1, c2])
          hkt := R2.hkt.kp Kall fun a ha => by simp; exact ⟨fun q => b4 (q ▸ ha), fun q => e1 (q ▸ ha)⟩
          hrw := Kall _ _ R2.hrw (by simp [Ne.symm b2, d1])
          hrt := R2.hrt.kp Kall fun a ha => by simp; exact ⟨fun q => R2.rwsn R2.hst (q ▸ ha), fun q => R2.rwsn R2.htk (q ▸ ha)⟩
          htk := by rw [upd_self, h1, h2]
          hoc := Kall _ _ R2.hoc (by simp [a1, a4])
          hnd := R.hnd
          hlen := hl'
          hk0 := kp_step R2.hk0 Kall fun x hx => by
            simp at hx
            rcases hx with rfl | rfl
            · exact R.hfr _ (by simp)
            · exact R.hfr _ (by simp)
          hfr := R.hfr } fun a ha => gHa a (gHb a (gc a (upd_none ha)))
      rcases (by omega : a = 0 ∨ a = 1) with rfl | rfl
      · exact fin m.ta _ _ rfl rfl rfl rfl
      · exact fin m.td _ _ rfl rfl rfl rfl
    · cases hc
end
section
set_option genSizeOf false
set_option genSizeOfSpec false
set_option maxRecDepth 100000
set_option autoImplicit false
noncomputable def macLp (last : Int) (m : Mac) : Prop := last = 141 ↔ m.lp = true
theorem run_step (D : Ad) (hD : D.law_moveS = law_moveS) {H0 H : AHeap} {o st kp rw tk : Addr} {ks rws : List Addr} {oct pre post : List Int} {m m' : Mac} {c : Cmd} (R : RunAt H0 H o st kp rw tk ks rws oct m) (hc : cstep m c = some m') (hz2 : oct.length + 10 ≤ LIM) (hk : m.kept.length + 1 < LIM) (ho : m.outs.length + 1 < LIM)
    (hoct : oct = pre ++ (encC c ++ post)) (last : Int) (hlast : last = 141 ↔ m.lp = true) (x8 x9 x10 : Option AV) (K : PS)
    (h : ∀ H' st' tk' ks' rws' last' x8 x9 x10, RunAt H0 H' o st' kp rw tk' ks' rws' oct m' → (∀ a, H' a = none → H a = none) → (last' = 141 ↔ m'.lp = true) → K .next [some (.ref o), some (.ref st'), some (.ref kp), some (.ref rw), some (.ref tk'), some (.int m'.deep), some (.int ((pre ++ encC c).length : Nat)), some (.int last'), x8, x9, x10] H') :
    runB D [some (.ref o), some (.ref st), some (.ref kp), some (.ref rw), some (.ref tk), some (.int m.deep), some (.int pre.length), some (.int last), x8, x9, x10] H K := by
  obtain ⟨op, bs, hen⟩ : ∃ op bs, encC c = op :: bs := List.exists_cons_of_ne_nil (encC_ne c)
  have hop : oct[pre.length]? = some op := by
    rw [hoct, hen, List.getElem?_append_right (Nat.le_refl _), Nat.sub_self]; rfl
  rw [runB_run]
  refine r_seq ?_
  rw [sw2]
  try simp (disch := omega) only [k_next, l_z, l_s, b_Add, mConst, mBin, mTup, mSub, aCons, aNil]
  rw [e_subI (.inl R.hoc) hop (by omega)]
  refine ⟨by show 2 ≤ 1000; decide, fun y0 hy0 => ?_⟩
  generalize hE : upd H y0 (.tup _) = Ha
  have fa := (congrFun hE y0).symm
  rw [upd_self] at fa
  have Ka : Kp [] H Ha := by rw [← hE]; exact Kp.new _ hy0
  have ga : ∀ b, Ha b = none → H b = none := fun b hb => by rw [← hE] at hb; exact upd_none hb
  clear hE
  rw [e_seqL (n := 2) (.inr fa) rfl]
  show tEach [tName 10, tName 9] [.int (pre.length + 1), .int op] _ _ _
  try simp (disch := omega) only [tName, te_c, te_n, List.set_cons_zero, List.set_cons_succ]
  have Ra := R.keep Ka
  refine r_seq ?_
  try simp (disch := omega) only [k_next, sAssign, tName, List.set_cons_zero, List.set_cons_succ, mConst]
  refine r_seq ?_
  try simp (disch := omega) only [e_sIf, l_z, l_s, c_Eq, mConst, tCmp, decide_eq_true_eq]
  have fin : ∀ (H1 : AHeap) (st' tk' : Addr) (ks' rws' : List Addr) (room : Int), RunAt H0 H1 o st' kp rw tk' ks' rws' oct m' → (∀ a, H1 a = none → Ha a = none) → ((pre.length : Int) + 1 + room = ((pre ++ encC c).length : Nat)) → (op = 141 ↔ m'.lp = true) →
      seqK tailB K .next [some (.ref o), some (.ref st'), some (.ref kp), some (.ref rw), some (.ref tk'), some (.int m'.deep), some (.int pre.length), some (.int last), some (.int room), some (.int op), some (.int (pre.length + 1))] H1 := by
    intro H1 st' tk' ks' rws' room R1 g1 hr hl
    rw [k_next]
    refine run_tail R1 _ _ _ _ _ _ _ fun H2 R2 g2 => ?_
    rw [hr]
    exact h H2 st' tk' ks' rws' op _ _ _ R2 (fun a ha => ga a (g1 a (g2 a ha))) hl
  cases c with
  | push =>
    injection hen with e1 e2
    subst e1
    rw [if_pos rfl]
    refine run_push Ra hc hk _ _ _ _ _ _ fun H1 ks' R1 g1 => ?_
    refine fin H1 st tk ks' rws 0 R1 g1 (by simp [encC]) ?_
    injection hc with hc
    subst hc
    simp
  | pop =>
    injection hen with e1 e2
    subst e1
    rw [if_neg (by decide)]
    refine r_seq ?_
    try simp (disch := omega) only [e_sIf, e_tAnd, l_z, l_s, c_Eq, c_Ne, mConst, tCmp, mList, aNil, tTrue, decide_eq_true_eq, if_true, Bool.false_eq_true, if_false]
    have hc' := hc
    simp only [cstep] at hc'
    split at hc'
    · cases hc'
    rename_i hlp
    split at hc'
    · cases hc'
    rename_i f hf
    refine ⟨by show 0 ≤ 1000; decide, fun y1 hy1 => ?_⟩
    generalize hE : upd Ha y1 (.list _) = Hb
    have fb := (congrFun hE y1).symm
    rw [upd_self] at fb
    have Kb : Kp [] Ha Hb := by rw [← hE]; exact Kp.new _ hy1
    have gb : ∀ b, Hb b = none → Ha b = none := fun b hb => by rw [← hE] at hb; exact upd_none hb
    clear hE
    have Rb := Ra.keep Kb
    have hkl := Rb.hkt.length
    refine ne_nil Rb.hkp fb (by simp; omega) ?_
    have hne : ks.map AV.ref ≠ [] := by
      intro e
      have : ks = [] := by simpa using e
      rw [this] at hkl
      have : m.kept = [] := List.length_eq_zero_iff.mp hkl.symm
      rw [this] at hf; cases hf
    try simp (disch := omega) only [decide_eq_true_eq]
    rw [if_pos hne, if_pos (fun e => hlp (hlast.mp e))]
    refine run_pop Rb hc hk _ _ _ _ _ _ fun H1 st' ks' R1 g1 => ?_
    refine fin H1 st' tk ks' rws 0 R1 (fun a ha => gb a (g1 a ha)) (by simp [encC]) ?_
    injection hc' with hc'
    subst hc'
    simp
  | spec k =>
    injection hen with e1 e2
    subst e1
    rw [if_neg (by decide)]
    refine r_seq ?_
    try simp (disch := omega) only [e_sIf, e_tAnd, l_z, l_s, c_Eq, c_Ne, mConst, tCmp, mList, aNil, tTrue, decide_eq_true_eq, if_true, Bool.false_eq_true, if_false, forall_const]
    rw [if_neg (by decide)]
    refine r_seq ?_
    try simp (disch := omega) only [e_sIf, l_z, l_s, c_Eq, mConst, tCmp, decide_eq_true_eq, if_true]
    have hb : oct[(pre.length + 1) + 1]? = some k := by
      rw [hoct, List.getElem?_append_right (by omega)]
      have : pre.length + 1 + 1 - pre.length = 2 := by omega
      rw [this]; rfl
    have eb : ((pre.length : Int) + 1) = ((pre.length + 1 : Nat) : Int) := by omega
    rw [eb]
    refine run_spec Ra hc ho (by omega) (pre.length + 1) hb _ _ _ _ _ fun H1 tk' rws' R1 g1 => ?_
    rw [← eb]
    refine fin H1 st tk' ks rws' 2 R1 g1 (by simp [encC]; omega) ?_
    injection hc with hc
    subst hc
    simp
  | mv a sort s =>
    injection hen with e1 e2
    have hc' := hc
    simp only [cstep] at hc'
    split at hc'
    · rename_i hok
      unfold mvOk at hok
      rw [Bool.and_eq_true, decide_eq_true_eq] at hok
      obtain ⟨⟨ha, hs⟩, _⟩ := hok
      rw [if_neg (by omega)]
      refine r_seq ?_
      try simp (disch := omega) only [e_sIf, e_tAnd, l_z, l_s, c_Eq, c_Ne, mConst, tCmp, mList, aNil, tTrue, decide_eq_true_eq, if_true, Bool.false_eq_true, if_false, forall_const]
      rw [if_neg (by omega)]
      refine r_seq ?_
      try simp (disch := omega) only [e_sIf, l_z, l_s, c_Eq, mConst, tCmp, decide_eq_true_eq]
      rw [if_neg (by omega)]
      refine r_seq ?_
      try simp (disch := omega) only [e_sIf, e_chain, l_z, l_s, c_Lt, c_Le, mConst, decide_eq_true_eq, Bool.false_eq_true, if_false]
      rw [if_pos (by omega), if_pos (by omega)]
      refine run_mv D hD (pre := pre ++ [op]) (post := post) Ra hc (by omega) (by rw [hoct, ← e1]; simp [encC]) _ _ (by simp) e1.symm _ _ _ _ fun H1 R1 g1 => ?_
      refine fin H1 st tk ks rws _ R1 g1 (by simp [encC, bytesN_length]; omega) ?_
      injection hc' with hc'
      subst hc'
      simp
      omega
    · cases hc'
theorem run_loop (D : Ad) (hD : D.law_moveS = law_moveS) (H0 : AHeap) (o kp rw : Addr) (oct : List Int) (hz2 : oct.length + 10 ≤ LIM) (K : PS) : ∀ (cs : List Cmd) (pre : List Int) (m m' : Mac) (H : AHeap) (st tk : Addr) (ks rws : List Addr) (last : Int) (x8 x9 x10 : Option AV),
    oct = pre ++ encs cs → crun m cs = some m' → RunAt H0 H o st kp rw tk ks rws oct m → m.kept.length + cs.length + 1 < LIM → m.outs.length + cs.length + 1 < LIM → (last = 141 ↔ m.lp = true) →
    (∀ H' st' tk' ks' rws' x7 x8 x9 x10, RunAt H0 H' o st' kp rw tk' ks' rws' oct m' → (∀ a, H' a = none → H a = none) → K .next [some (.ref o), some (.ref st'), some (.ref kp), some (.ref rw), some (.ref tk'), some (.int m'.deep), some (.int oct.length), x7, x8, x9, x10] H') →
    whileW runT (runB D) (cs.length + 1) [some (.ref o), some (.ref st), some (.ref kp), some (.ref rw), some (.ref tk), some (.int m.deep), some (.int pre.length), some (.int last), x8, x9, x10] H K := by
  intro cs
  induction cs with
  | nil =>
    intro pre m m' H st tk ks rws last x8 x9 x10 hoct hr R hk ho hl h
    injection hr with hr
    subst hr
    have e : oct = pre := by rw [hoct]; simp [encs]
    rw [e_while]
    try simp (disch := omega) only [l_z, l_s, tCmp, mCall, aCons, aNil]
    rw [e_len R.hoc (by rw [intsV_length]; omega), intsV_length]
    try simp (disch := omega) only [c_Lt, decide_eq_true_eq]
    rw [if_neg (by rw [e]; omega), ← e]
    exact h H st tk ks rws _ _ _ _ R (fun a ha => ha)
  | cons c cs ih =>
    intro pre m m' H st tk ks rws last x8 x9 x10 hoct hr R hk ho hl h
    unfold crun at hr
    split at hr
    · cases hr
    rename_i m1 hc
    have hoct1 : oct = pre ++ (encC c ++ encs cs) := by rw [hoct]; simp [encs]
    have hlt : pre.length < oct.length := by
      obtain ⟨op, bs, hen⟩ : ∃ op bs, encC c = op :: bs := List.exists_cons_of_ne_nil (encC_ne c)
      rw [hoct1, hen]; simp
    rw [e_while]
    try simp (disch := omega) only [l_z, l_s, tCmp, mCall, aCons, aNil]
    rw [e_len R.hoc (by rw [intsV_length]; omega), intsV_length]
    try simp (disch := omega) only [c_Lt, decide_eq_true_eq]
    rw [if_pos (by omega)]
    simp only [List.length_cons] at hk ho
    refine run_step D hD R hc hz2 (by omega) (by omega) hoct1 last hl _ _ _ _ fun H1 st1 tk1 ks1 rws1 last1 y8 y9 y10 R1 g1 hl1 => ?_
    rw [w_next]
    have hkk : m1.kept.length ≤ m.kept.length + 1 ∧ m1.outs.length ≤ m.outs.length + 1 := by
      cases c with
      | push => injection hc with hc; subst hc; simp
      | pop =>
        simp only [cstep] at hc
        split at hc
        · cases hc
        split at hc
        · cases hc
        injection hc with hc; subst hc; simp; omega
      | spec k => injection hc with hc; subst hc; simp
      | mv a sort s =>
        simp only [cstep] at hc
        split at hc
        · injection hc with hc; subst hc; simp
        · cases hc
    exact ih (pre ++ encC c) m1 m' H1 st1 tk1 ks1 rws1 last1 _ _ _ (by rw [hoct1, List.append_assoc]) hr R1 (by omega) (by omega) hl1 fun H' st' tk' ks' rws' x7 x8 x9 x10 R' g' => h H' st' tk' ks' rws' _ _ _ _ R' fun a ha => g1 a (g' a ha)
end
section
set_option genSizeOf false
set_option genSizeOfSpec false
set_option maxRecDepth 100000
set_option autoImplicit false
noncomputable def mac0 : Mac := ⟨[0, 0, 0, 0, 0, 0], [], [], 0, 0, 0, false⟩
noncomputable def law_runS : Spec := fun args H P => match args with
  | [.ref o] => ∃ cs m, H o = some (.list (intsV (encs cs))) ∧ (encs cs).length + 10 ≤ LIM ∧ cs.length + 10 < LIM ∧ crun mac0 cs = some m ∧ m.kept = [] ∧
      ∀ H' t r rws, Kp [] H H' → H' t = some (.tup [.ref r, .int m.deep]) → H' r = some (.list (rws.map .ref)) → Tab outO H' rws m.outs → P (.ref t) H'
  | _ => False
theorem law_runS_inv {args : List AV} {H : AHeap} {P : AV → AHeap → Prop} (h : law_runS args H P) : ∃ o, args = [.ref o] ∧ law_runS [.ref o] H P := by
  cases args with
  | nil => exact h.elim
  | cons a0 l0 =>
    cases a0 with
    | none => exact h.elim
    | bool _ => exact h.elim
    | int _ => exact h.elim
    | bytes _ => exact h.elim
    | ref o =>
      cases l0 with
      | cons _ _ => exact h.elim
      | nil => exact ⟨_, rfl, h⟩
theorem law_run_ok (D : Ad) (hD : D.law_moveS = law_moveS) : ∀ args H P, law_runS args H P → args.length = 1 ∧ m_law_run D (startLoc args 10) H (fun fl _ H' => match fl with | .ret v => P v H' | .next => P .none H' | _ => False) := by
  intro args H P h
  obtain ⟨o, rfl, h⟩ := law_runS_inv h
  · unfold law_runS at h
    (try dsimp only at h)
    obtain ⟨cs, m, ho, hz, hz2, hr, hkept, hP⟩ := h
    refine ⟨rfl, ?_⟩
    unfold m_law_run
    refine r_seq ?_
    try simp (disch := omega) only [k_next, sAssign, tt7, mConst, mBin, mTup, mList, aCons, aNil, startLoc, List.map_cons, List.map_nil, List.replicate, List.cons_append, List.nil_append]
    refine ⟨by show 1 ≤ 1000; decide, fun y0 hy0 => ?_⟩
    generalize hE : upd H y0 (.list _) = Ha
    have fa := (congrFun hE y0).symm
    rw [upd_self] at fa
    have Ka : Kp [] H Ha := by rw [← hE]; exact Kp.new _ hy0
    have ga : ∀ b, Ha b = none → H b = none := fun b hb => by rw [← hE] at hb; exact upd_none hb
    clear hE
    refine ⟨_, fa, by decide, by decide, by show 1 ≤ 1000; decide, fun st hst => ?_⟩
    generalize hE : upd Ha st (.list _) = Hb
    have fb := (congrFun hE st).symm
    rw [upd_self] at fb
    have Kb : Kp [] Ha Hb := by rw [← hE]; exact Kp.new _ hst
    have gb : ∀ b, Hb b = none → Ha b = none := fun b hb => by rw [← hE] at hb; exact upd_none hb
    clear hE
    refine ⟨by show 0 ≤ 1000; decide, fun kp hkp => ?_⟩
    generalize hE : upd Hb kp (.list _) = Hc
    have fc := (congrFun hE kp).symm
    rw [upd_self] at fc
    have Kc : Kp [] Hb Hc := by rw [← hE]; exact Kp.new _ hkp
    have gc : ∀ b, Hc b = none → Hb b = none := fun b hb => by rw [← hE] at hb; exact upd_none hb
    clear hE
    refine ⟨by show 0 ≤ 1000; decide, fun rw hrw => ?_⟩
    generalize hE : upd Hc rw (.list _) = Hd
    have fd := (congrFun hE rw).symm
    rw [upd_self] at fd
    have Kd : Kp [] Hc Hd := by rw [← hE]; exact Kp.new _ hrw
    have gd : ∀ b, Hd b = none → Hc b = none := fun b hb => by rw [← hE] at hb; exact upd_none hb
    clear hE
    refine ⟨by show 2 ≤ 1000; decide, fun tk htk => ?_⟩
    generalize hE : upd Hd tk (.list _) = He
    have fe := (congrFun hE tk).symm
    rw [upd_self] at fe
    have Ke : Kp [] Hd He := by rw [← hE]; exact Kp.new _ htk
    have ge : ∀ b, He b = none → Hd b = none := fun b hb => by rw [← hE] at hb; exact upd_none hb
    clear hE
    refine ⟨by show 7 ≤ 1000; decide, fun y1 hy1 => ?_⟩
    generalize hE : upd He y1 (.tup _) = Hf
    have ff := (congrFun hE y1).symm
    rw [upd_self] at ff
    have Kf : Kp [] He Hf := by rw [← hE]; exact Kp.new _ hy1
    have gf : ∀ b, Hf b = none → He b = none := fun b hb => by rw [← hE] at hb; exact upd_none hb
    clear hE
    rw [e_seqL (n := 7) (.inr ff) rfl]
    try simp (disch := omega) only [tName, te_c, te_n, List.set_cons_zero, List.set_cons_succ]
    have K0 : Kp [] H Hf := ((((Ka.trans Kb).trans Kc).trans Kd).trans Ke).trans Kf
    have fb' := (((Kc.trans Kd).trans Ke).trans Kf) _ _ fb (by simp)
    have fc' := ((Kd.trans Ke).trans Kf) _ _ fc (by simp)
    have fd' := (Ke.trans Kf) _ _ fd (by simp)
    have fe' := Kf _ _ fe (by simp)
    have fo' := K0 _ _ ho (by simp)
    have n1 : ∀ {Hx : AHeap} {x : AObj} {a b : Addr}, Hx a = some x → Hx b = none → a ≠ b := fun h1 h2 e => by rw [e, h2] at h1; cases h1
    have R : RunAt H Hf o st kp rw tk [] [] (encs cs) mac0 := {
      hst := fb'
      hkp := fc'
      hkt := .nil
      hrw := fd'
      hrt := .nil
      htk := fe'
      hoc := fo'
      hnd := by
        have o1 : o ≠ st := n1 (Ka _ _ ho (by simp)) hst
        have o2 : o ≠ kp := n1 ((Ka.trans Kb) _ _ ho (by simp)) hkp
        have o3 : o ≠ rw := n1 (((Ka.trans Kb).trans Kc) _ _ ho (by simp)) hrw
        have o4 : o ≠ tk := n1 ((((Ka.trans Kb).trans Kc).trans Kd) _ _ ho (by simp)) htk
        have s2 : st ≠ kp := n1 fb hkp
        have s3 : st ≠ rw := n1 (Kc _ _ fb (by simp)) hrw
        have s4 : st ≠ tk := n1 ((Kc.trans Kd) _ _ fb (by simp)) htk
        have k3 : kp ≠ rw := n1 fc hrw
        have k4 : kp ≠ tk := n1 (Kd _ _ fc (by simp)) htk
        have r4 : rw ≠ tk := n1 fd htk
        simp [o1, o2, o3, o4, s2, s3, s4, k3, k4, r4]
      hlen := ⟨rfl, fun L hL => by cases hL⟩
      hk0 := K0
      hfr := by
        intro a ha
        simp only [List.mem_cons, List.not_mem_nil, or_false] at ha
        rcases ha with rfl | rfl | rfl | rfl
        · exact ga _ hst
        · exact ga _ (gb _ hkp)
        · exact ga _ (gb _ (gc _ hrw))
        · exact ga _ (gb _ (gc _ (gd _ htk))) }
    refine r_seq ?_
    refine ⟨cs.length + 1, ?_⟩
    refine run_loop D hD H o kp rw (encs cs) hz _ cs [] mac0 m Hf st tk [] [] 0 none none none rfl hr R (by show 0 + cs.length + 1 < LIM; omega) (by show 0 + cs.length + 1 < LIM; omega) (by simp [mac0]) fun H' st' tk' ks' rws' x7 x8 x9 x10 R' g' => ?_
    rw [k_next]
    refine r_seq ?_
    try simp (disch := omega) only [k_ret, e_mIf, l_z, l_s, sRet, mConst, tCmp, mTup, mList, aCons, aNil]
    have hks : ks' = [] := by
      have := R'.hkt.length
      rw [hkept] at this
      exact List.length_eq_zero_iff.mp this
    refine ⟨by show 0 ≤ 1000; decide, fun y2 hy2 => ?_⟩
    generalize hE : upd H' y2 (.list _) = Hg
    have fg := (congrFun hE y2).symm
    rw [upd_self] at fg
    have Kg : Kp [] H' Hg := by rw [← hE]; exact Kp.new _ hy2
    clear hE
    have Rg := R'.keep Kg
    refine eq_nil Rg.hkp fg (by simp [hks]) ?_
    try simp (disch := omega) only [decide_eq_true_eq]
    rw [if_pos (by rw [hks]; rfl)]
    refine ⟨by show 2 ≤ 1000; decide, fun y3 hy3 => ?_⟩
    generalize hE : upd Hg y3 (.tup _) = Hh
    have fh := (congrFun hE y3).symm
    rw [upd_self] at fh
    have Kh : Kp [] Hg Hh := by rw [← hE]; exact Kp.new _ hy3
    clear hE
    have Rh := Rg.keep Kh
    exact hP Hh y3 rw rws' Rh.hk0 fh Rh.hrw Rh.hrt
end
section
set_option genSizeOf false
set_option genSizeOfSpec false
set_option maxRecDepth 100000
set_option autoImplicit false
/-- a new object -/
noncomputable def newS (o : AObj) (H : AHeap) (P : AV → AHeap → Prop) : Prop := ∀ n, H n = none → P (.ref n) (upd H n o)
theorem nw {o : AObj} {H : AHeap} {P : AV → AHeap → Prop} (h : ∀ y Ha, H y = none → Ha y = some o → Kp [] H Ha → (∀ b, Ha b = none → H b = none) → P (.ref y) Ha) : newS o H P := fun n hn =>
  h n _ hn (upd_self _ _ _) (Kp.new _ hn) fun _ hb => upd_none hb
theorem e_mTup (ms : MA) (ρ : Loc) (H : AHeap) (P : AV → AHeap → Prop) : mTup ms ρ H P = ms ρ H fun vs H => vs.length ≤ 1000 ∧ newS (.tup vs) H P := rfl
theorem e_mList (ms : MA) (ρ : Loc) (H : AHeap) (P : AV → AHeap → Prop) : mList ms ρ H P = ms ρ H fun vs H => vs.length ≤ 1000 ∧ newS (.list vs) H P := rfl
theorem h_addL {l k : Addr} {vs ws : List AV} {H : AHeap} {P : AV → AHeap → Prop} (h1 : H l = some (.list vs)) (h2 : H k = some (.list ws)) (hz : vs.length + ws.length ≤ LIM) (h : newS (.list (vs ++ ws)) H P) : binS .Add (.ref l) (.ref k) H P := ⟨vs, ws, h1, h2, hz, h⟩
theorem h_mulL {l : Addr} {x : Int} {vs : List AV} {H : AHeap} {P : AV → AHeap → Prop} (h1 : H l = some (.list vs)) (h0 : 0 ≤ x) (hx : x ≤ 1000) (hz : vs.length ≤ 1000) (h : newS (.list (List.replicate x.toNat vs).flatten) H P) : binS .Mult (.ref l) (.int x) H P := ⟨vs, h1, h0, hx, hz, h⟩
theorem h_slice {l : Addr} {x y : Option Int} {vs : List AV} {H : AHeap} {P : AV → AHeap → Prop} (h1 : H l = some (.list vs)) (hz : vs.length ≤ LIM) (h : newS (.list (pickL vs x y)) H P) : sliceS (.ref l) x y H P := ⟨vs, h1, hz, h⟩
theorem h_inL {x : Int} {l : Addr} {xs : List Int} {H : AHeap} {P : Bool → AHeap → Prop} (h1 : H l = some (.list (intsV xs))) (h : P (xs.contains x) H) : cmpS .In (.int x) (.ref l) H P := ⟨xs, h1, h⟩
noncomputable def last2 (l : List Int) : List Int := l.drop (l.length - 2)
theorem clip_2 (n : Nat) : clipAt n (-2) = n - 2 := by
  unfold clipAt
  rw [if_pos (by decide), Int.min_eq_left (by omega)]
  match n with
  | 0 => rfl
  | 1 => rfl
  | k + 2 =>
    have e : (-2 + ((k + 2 : Nat) : Int)) = (k : Int) := by omega
    rw [e, Int.max_eq_right (Int.natCast_nonneg k)]; rfl
theorem pick_last2 (l : List Int) : pickL (intsV l) (some (-2)) none = intsV (last2 l) := by
  unfold pickL last2
  simp only [Option.elim]
  have e : clipAt (intsV l).length (-2) = l.length - 2 := by rw [intsV_length]; exact clip_2 _
  rw [e, intsV_length]
  unfold intsV
  rw [← List.map_drop, ← List.map_take, List.take_of_length_le (by simp)]
structure WRow where
  h : Int
  v : Int
  aside : Int
  down : Int
  na : Bool
  nd : Bool
noncomputable def wrowO (r : WRow) : AObj := .tup [.int r.h, .int r.v, .int r.aside, .int r.down, .bool r.na, .bool r.nd]
structure Kept where
  b : Int
  h : Int
  v : Int
noncomputable def keptO (k : Kept) : AObj := .tup (intsV [k.b, k.h, k.v])
structure WSt where
  S : PgS
  kept : List Kept
  sh : Int
  sv : Int
  la : List Int
  ld : List Int
  rows : List WRow
noncomputable def W0 : WSt := ⟨S0, [], 0, 0, [], [], []⟩
noncomputable def nz1 (x : Int) : List Int := if x = 0 then [] else [x]
noncomputable def wpush (W : WSt) : WSt := { W with S := openP W.S (W.kept.length + 1), kept := W.kept ++ [⟨(openP W.S (W.kept.length + 1)).oct.length, W.S.h, W.S.v⟩], la := [], ld := [] }
noncomputable def wpop (W : WSt) (k : Kept) : WSt := { W with S := { closeP W.S k.b W.kept.length with h := k.h, v := k.v }, kept := W.kept.dropLast, sh := k.h, sv := k.v, la := [], ld := [] }
noncomputable def wmark (W : WSt) (a d : Int) : WSt := { S := specialP W.S W.rows.length (W.sh + a) (W.sv + d), kept := W.kept, sh := W.sh + a, sv := W.sv + d, la := W.la ++ nz1 a, ld := W.ld ++ nz1 d, rows := W.rows ++ [⟨W.sh + a, W.sv + d, a, d, (last2 W.la).contains a, (last2 W.ld).contains d⟩] }
noncomputable def wstep (W : WSt) (t : Trip) : WSt :=
  if t.what = 1 ∧ W.kept.length < 4 then wpush W
  else if t.what = 2 then match W.kept.getLast? with
    | none => W
    | some k => wpop W k
  else if t.what = 0 then wmark W t.aside t.down
  else W
structure WPre (W : WSt) (t : Trip) : Prop where
  ok : PgOk W.S
  ne : W.kept ≠ [] → W.S.oct ≠ []
  k4 : W.kept.length ≤ 4
  lla : W.la.length ≤ 100
  lld : W.ld.length ≤ 100
  rw : W.rows.length ≤ 100
  mark : t.what = 0 → PgOk (goA W.S (W.sh + t.aside)) ∧ PgOk (goD (goA W.S (W.sh + t.aside)) (W.sv + t.down)) ∧ (W.sh + t.aside).natAbs ≤ 1073741823 ∧ (W.sv + t.down).natAbs ≤ 1073741823
noncomputable def wgood : WSt → List Trip → Prop
  | W, [] => PgOk W.S
  | W, t :: ts => WPre W t ∧ wgood (wstep W t) ts
noncomputable def wfin (ts : List Trip) : WSt := (ts ++ List.replicate 4 (Trip.mk 2 0 0)).foldl wstep W0
/-- the last closing -/
noncomputable def wclose (W : WSt) : PgS := closeP W.S 0 0
noncomputable def law_writtenS (cM cP : Addr) : Spec := fun args H P => match args with
  | [.ref s] => ∃ as ts, H s = some (.list (as.map .ref)) ∧ Tab tripO H as ts ∧ ts.length ≤ 100 ∧ wgood W0 (ts ++ List.replicate 4 (Trip.mk 2 0 0)) ∧
      ∀ H' t A raa rad r rws, H' t = some (.tup [.ref A.pg, .ref r]) → PageAt cM cP H' A raa rad (wclose (wfin ts)) → H' r = some (.list (rws.map .ref)) → Tab wrowO H' rws (wfin ts).rows → P (.ref t) H'
  | _ => False
section
variable {cM cP : Addr} {H H' : AHeap} {A : PA} {raa rad raa' rad' : List Addr} {S S' : PgS}
theorem PageAt.kp0 (p : PageAt cM cP H A raa rad S) (K : Kp [] H H') : PageAt cM cP H' A raa rad S where
  pg := K _ _ p.pg (by simp)
  dp := K _ _ p.dp (by simp)
  ac := p.ac.kp K (by simp) (by simp)
  dn := p.dn.kp K (by simp) (by simp)
  la := K _ _ p.la (by simp)
  ra := p.ra.kp K (by simp)
  ld := K _ _ p.ld (by simp)
  rd := p.rd.kp K (by simp)
  oc := K _ _ p.oc (by simp)
  nd := p.nd
theorem PageAt.kpN (p : PageAt cM cP H A raa rad S) {X : List Addr} (K : Kp X H H') (hX : ∀ a ∈ X, a ∉ A.dp :: LX A raa rad ∧ ∃ vs, H a = some (.list vs)) : PageAt cM cP H' A raa rad S := by
  have q : ∀ {a : Addr} {o : AObj}, H a = some o → isLst o = false → a ∉ X := fun e hl m => by
    obtain ⟨_, vs, e'⟩ := hX _ m
    rw [e] at e'; cases e'; cases hl
  have q2 : ∀ a, a ∈ LX A raa rad → a ∉ X := fun a ha m => (hX a m).1 (.tail _ ha)
  exact {
  pg := K _ _ p.pg (q p.pg rfl)
  dp := K _ _ p.dp (q p.dp rfl)
  ac := p.ac.kp K (q p.ac.1 rfl) (q p.ac.2 rfl)
  dn := p.dn.kp K (q p.dn.1 rfl) (q p.dn.2 rfl)
  la := K _ _ p.la (q2 _ (by simp))
  ra := p.ra.kp K fun a ha => q2 _ (by simp [ha])
  ld := K _ _ p.ld (q2 _ (by simp))
  rd := p.rd.kp K fun a ha => q2 _ (by simp [ha])
  oc := K _ _ p.oc (q2 _ (by simp))
  nd := p.nd }
end
/-- how the world stands between the steps -/
structure WAt (cM cP : Addr) (H : AHeap) (A : PA) (raa rad : List Addr) (lf l3 l4 l5 l6 x y : Addr) (as rws kps : List Addr) (ts : List Trip) (W : WSt) : Prop where
  pa : PageAt cM cP H A raa rad W.S
  hf : H lf = some (.list (as.map .ref))
  tf : Tab tripO H as ts
  h3 : H l3 = some (.list (rws.map .ref))
  t3 : Tab wrowO H rws W.rows
  h4 : H l4 = some (.list (kps.map .ref))
  t4 : Tab keptO H kps W.kept
  h5 : H l5 = some (.list (intsV [W.sh, W.sv]))
  h6 : H l6 = some (.list [.ref x, .ref y])
  hx : H x = some (.list (intsV W.la))
  hy : H y = some (.list (intsV W.ld))
  n : ∀ a ∈ [lf, l3, l4, l5, l6, x, y], a ∉ A.dp :: LX A raa rad
  n34 : l3 ≠ l4
  n' : ∀ a ∈ [lf, l5, l6, x, y], a ≠ l3 ∧ a ≠ l4
section
variable {cM cP : Addr} {H H' : AHeap} {A : PA} {raa rad : List Addr} {lf l3 l4 l5 l6 x y : Addr} {as rws kps : List Addr} {ts : List Trip} {W : WSt}
theorem WAt.kp0 (I : WAt cM cP H A raa rad lf l3 l4 l5 l6 x y as rws kps ts W) (K : Kp [] H H') : WAt cM cP H' A raa rad lf l3 l4 l5 l6 x y as rws kps ts W where
  pa := I.pa.kp0 K
  hf := K _ _ I.hf (by simp)
  tf := I.tf.kp K (by simp)
  h3 := K _ _ I.h3 (by simp)
  t3 := I.t3.kp K (by simp)
  h4 := K _ _ I.h4 (by simp)
  t4 := I.t4.kp K (by simp)
  h5 := K _ _ I.h5 (by simp)
  h6 := K _ _ I.h6 (by simp)
  hx := K _ _ I.hx (by simp)
  hy := K _ _ I.hy (by simp)
  n := I.n
  n34 := I.n34
  n' := I.n'
theorem lx_tup {a : Addr} {S : PgS} {vs : List AV} (p : PageAt cM cP H A raa rad S) (h : H a = some (.tup vs)) : a ∉ A.dp :: LX A raa rad := by
  intro m
  rcases List.mem_cons.mp m with rfl | m
  · rw [p.dp] at h; cases h
  · obtain ⟨ws, e⟩ := p.lst _ m; rw [h] at e; cases e
theorem WAt.page (I : WAt cM cP H A raa rad lf l3 l4 l5 l6 x y as rws kps ts W) {raa' rad' : List Addr} {S' : PgS} (p' : PageAt cM cP H' A raa' rad' S') (K : Kp (A.dp :: LX A raa rad) H H') (s : ∀ a ∈ raa' ++ rad', a ∈ raa ++ rad ∨ H a = none) :
    WAt cM cP H' A raa' rad' lf l3 l4 l5 l6 x y as rws kps ts { W with S := S' } where
  pa := p'
  hf := K _ _ I.hf (I.n _ (by simp))
  tf := I.tf.kp K fun a ha => by obtain ⟨b, _, e⟩ := I.tf.mem a ha; exact lx_tup I.pa e
  h3 := K _ _ I.h3 (I.n _ (by simp))
  t3 := I.t3.kp K fun a ha => by obtain ⟨b, _, e⟩ := I.t3.mem a ha; exact lx_tup I.pa e
  h4 := K _ _ I.h4 (I.n _ (by simp))
  t4 := I.t4.kp K fun a ha => by obtain ⟨b, _, e⟩ := I.t4.mem a ha; exact lx_tup I.pa e
  h5 := K _ _ I.h5 (I.n _ (by simp))
  h6 := K _ _ I.h6 (I.n _ (by simp))
  hx := K _ _ I.hx (I.n _ (by simp))
  hy := K _ _ I.hy (I.n _ (by simp))
  n := fun a ha m => by
    rcases lx_sub s a m with q | q
    · exact I.n a ha q
    · simp only [List.mem_cons, List.not_mem_nil, or_false] at ha
      rcases ha with rfl | rfl | rfl | rfl | rfl | rfl | rfl
      · rw [I.hf] at q; cases q
      · rw [I.h3] at q; cases q
      · rw [I.h4] at q; cases q
      · rw [I.h5] at q; cases q
      · rw [I.h6] at q; cases q
      · rw [I.hx] at q; cases q
      · rw [I.hy] at q; cases q
  n34 := I.n34
  n' := I.n'
theorem WAt.fresh (I : WAt cM cP H A raa rad lf l3 l4 l5 l6 x y as rws kps ts W) {z : Addr} (hz : H z = none) : z ∉ A.dp :: LX A raa rad ∧ z ≠ l3 ∧ z ≠ l4 := by
  refine ⟨fun m => ?_, fun e => ?_, fun e => ?_⟩
  · rcases List.mem_cons.mp m with rfl | m
    · rw [I.pa.dp] at hz; cases hz
    · obtain ⟨ws, e⟩ := I.pa.lst _ m; rw [hz] at e; cases e
  · rw [e, I.h3] at hz; cases hz
  · rw [e, I.h4] at hz; cases hz
/-- other lists under latest and spot -/
theorem WAt.turn (I : WAt cM cP H A raa rad lf l3 l4 l5 l6 x y as rws kps ts W) {l5' l6' x' y' : Addr} {sh sv : Int} {la ld : List Int} (h5 : H l5' = some (.list (intsV [sh, sv]))) (h6 : H l6' = some (.list [.ref x', .ref y'])) (hx : H x' = some (.list (intsV la))) (hy : H y' = some (.list (intsV ld)))
    (n : ∀ a ∈ [l5', l6', x', y'], a ∉ A.dp :: LX A raa rad ∧ a ≠ l3 ∧ a ≠ l4) : WAt cM cP H A raa rad lf l3 l4 l5' l6' x' y' as rws kps ts { W with sh := sh, sv := sv, la := la, ld := ld } where
  pa := I.pa
  hf := I.hf
  tf := I.tf
  h3 := I.h3
  t3 := I.t3
  h4 := I.h4
  t4 := I.t4
  h5 := h5
  h6 := h6
  hx := hx
  hy := hy
  n := fun a ha => by
    simp only [List.mem_cons, List.not_mem_nil, or_false] at ha
    rcases ha with rfl | rfl | rfl | rfl | rfl | rfl | rfl
    · exact I.n _ (by simp)
    · exact I.n _ (by simp)
    · exact I.n _ (by simp)
    · exact (n _ (by simp)).1
    · exact (n _ (by simp)).1
    · exact (n _ (by simp)).1
    · exact (n _ (by simp)).1
  n34 := I.n34
  n' := fun a ha => by
    simp only [List.mem_cons, List.not_mem_nil, or_false] at ha
    rcases ha with rfl | rfl | rfl | rfl | rfl
    · exact I.n' _ (by simp)
    · exact (n _ (by simp)).2
    · exact (n _ (by simp)).2
    · exact (n _ (by simp)).2
    · exact (n _ (by simp)).2
/-- the rows, other -/
theorem WAt.rows (I : WAt cM cP H A raa rad lf l3 l4 l5 l6 x y as rws kps ts W) {rws' : List Addr} {rows' : List WRow} (K : Kp [l3] H H') (h3 : H' l3 = some (.list (rws'.map .ref))) (t3 : Tab wrowO H' rws' rows') :
    WAt cM cP H' A raa rad lf l3 l4 l5 l6 x y as rws' kps ts { W with rows := rows' } := by
  have q : ∀ {a : Addr} {vs : List AV}, H a = some (.tup vs) → a ∉ [l3] := fun e m => by
    simp at m; subst m; rw [I.h3] at e; cases e
  exact {
  pa := I.pa.kpN K fun a ha => by simp at ha; subst ha; exact ⟨I.n _ (by simp), _, I.h3⟩
  hf := K _ _ I.hf (by simp [(I.n' lf (by simp)).1])
  tf := I.tf.kp K fun a ha => by obtain ⟨b, _, e⟩ := I.tf.mem a ha; exact q e
  h3 := h3
  t3 := t3
  h4 := K _ _ I.h4 (by simp [Ne.symm I.n34])
  t4 := I.t4.kp K fun a ha => by obtain ⟨b, _, e⟩ := I.t4.mem a ha; exact q e
  h5 := K _ _ I.h5 (by simp [(I.n' l5 (by simp)).1])
  h6 := K _ _ I.h6 (by simp [(I.n' l6 (by simp)).1])
  hx := K _ _ I.hx (by simp [(I.n' x (by simp)).1])
  hy := K _ _ I.hy (by simp [(I.n' y (by simp)).1])
  n := I.n
  n34 := I.n34
  n' := I.n' }
theorem WAt.kepts (I : WAt cM cP H A raa rad lf l3 l4 l5 l6 x y as rws kps ts W) {kps' : List Addr} {kept' : List Kept} (K : Kp [l4] H H') (h4 : H' l4 = some (.list (kps'.map .ref))) (t4 : Tab keptO H' kps' kept') :
    WAt cM cP H' A raa rad lf l3 l4 l5 l6 x y as rws kps' ts { W with kept := kept' } := by
  have q : ∀ {a : Addr} {vs : List AV}, H a = some (.tup vs) → a ∉ [l4] := fun e m => by
    simp at m; subst m; rw [I.h4] at e; cases e
  exact {
  pa := I.pa.kpN K fun a ha => by simp at ha; subst ha; exact ⟨I.n _ (by simp), _, I.h4⟩
  hf := K _ _ I.hf (by simp [(I.n' lf (by simp)).2])
  tf := I.tf.kp K fun a ha => by obtain ⟨b, _, e⟩ := I.tf.mem a ha; exact q e
  h3 := K _ _ I.h3 (by simp [I.n34])
  t3 := I.t3.kp K fun a ha => by obtain ⟨b, _, e⟩ := I.t3.mem a ha; exact q e
  h4 := h4
  t4 := t4
  h5 := K _ _ I.h5 (by simp [(I.n' l5 (by simp)).2])
  h6 := K _ _ I.h6 (by simp [(I.n' l6 (by simp)).2])
  hx := K _ _ I.hx (by simp [(I.n' x (by simp)).2])
  hy := K _ _ I.hy (by simp [(I.n' y (by simp)).2])
  n := I.n
  n34 := I.n34
  n' := I.n' }
end
end
section
set_option genSizeOf false
set_option genSizeOfSpec false
set_option maxRecDepth 100000
set_option autoImplicit false
noncomputable def writtenB (D : Ad) : MS := (sSeq (sIf (tAnd (tCmp .Eq (mLoc 7) (mConst (.int 1))) (tAnd (tCmp .Lt (mCall lenS (aCons (mLoc 4) aNil)) (mConst (.int 4))) tTrue))
  (sSeq (sExpr (mLM .append (mLoc 4) (aCons (mTup (aCons (mMeth D.cP "open" D.open_S (mLoc 2) (aCons (mBin .Add (mCall lenS (aCons (mLoc 4) aNil)) (mConst (.int 1))) aNil)) (aCons (mAttr D.cP "h" (mLoc 2)) (aCons (mAttr D.cP "v" (mLoc 2)) aNil)))) aNil)))
  (sSeq (sAssign (tName 6) (mList (aCons (mList aNil) (aCons (mList aNil) aNil))))
  sNil))
  (sSeq (sIf (tAnd (tCmp .Eq (mLoc 7) (mConst (.int 2))) (tAnd (tCmp .NotEq (mLoc 4) (mList aNil)) tTrue))
  (sSeq (sAssign (tTup [(tName 10), (tName 11), (tName 12)]) (mLM .pop (mLoc 4) aNil))
  (sSeq (sExpr (mMeth D.cP "close" D.close_S (mLoc 2) (aCons (mLoc 10) (aCons (mBin .Add (mCall lenS (aCons (mLoc 4) aNil)) (mConst (.int 1))) aNil))))
  (sSeq (sAssign (tTup [(tAttr D.cP "h" (mLoc 2)), (tAttr D.cP "v" (mLoc 2))]) (mTup (aCons (mLoc 11) (aCons (mLoc 12) aNil))))
  (sSeq (sSwap [5, 6] (mTup (aCons (mList (aCons (mLoc 11) (aCons (mLoc 12) aNil))) (aCons (mList (aCons (mList aNil) (aCons (mList aNil) aNil))) aNil))))
  sNil))))
  (sSeq (sIf (tCmp .Eq (mLoc 7) (mConst (.int 0)))
  (sSeq (sAssign (tName 5) (mList (aCons (mBin .Add (mSub (mLoc 5) (mConst (.int 0))) (mLoc 8)) (aCons (mBin .Add (mSub (mLoc 5) (mConst (.int 1))) (mLoc 9)) aNil))))
  (sSeq (sAssign (tName 13) (mList (aCons (mCmp .In (mLoc 8) (mSlice (mSub (mLoc 6) (mConst (.int 0))) (mUn .USub (mConst (.int 2))) (mConst .none))) (aCons (mCmp .In (mLoc 9) (mSlice (mSub (mLoc 6) (mConst (.int 1))) (mUn .USub (mConst (.int 2))) (mConst .none))) aNil))))
  (sSeq (sExpr (mMeth D.cP "special" D.specialS (mLoc 2) (aCons (mCall bytesS (aCons (mList (aCons (mCall lenS (aCons (mLoc 3) aNil)) aNil)) aNil)) (aCons (mSub (mLoc 5) (mConst (.int 0))) (aCons (mSub (mLoc 5) (mConst (.int 1))) aNil)))))
  (sSeq (sExpr (mLM .append (mLoc 3) (aCons (mTup (aCons (mSub (mLoc 5) (mConst (.int 0))) (aCons (mSub (mLoc 5) (mConst (.int 1))) (aCons (mLoc 8) (aCons (mLoc 9) (aCons (mSub (mLoc 13) (mConst (.int 0))) (aCons (mSub (mLoc 13) (mConst (.int 1))) aNil))))))) aNil)))
  (sSeq (sAssign (tName 6) (mList (aCons (mBin .Add (mSub (mLoc 6) (mConst (.int 0))) (mBin .Mult (mList (aCons (mLoc 8) aNil)) (mCall intS (aCons (mCmp .NotEq (mLoc 8) (mConst (.int 0))) aNil)))) (aCons (mBin .Add (mSub (mLoc 6) (mConst (.int 1))) (mBin .Mult (mList (aCons (mLoc 9) aNil)) (mCall intS (aCons (mCmp .NotEq (mLoc 9) (mConst (.int 0))) aNil)))) aNil))))
  sNil)))))
  sNil)
  sNil))
  sNil))
  sNil)
theorem writtenB_run (D : Ad) (ρ : Loc) (H : AHeap) (K : PS) : writtenB D ρ H K = (sSeq (sIf (tAnd (tCmp .Eq (mLoc 7) (mConst (.int 1))) (tAnd (tCmp .Lt (mCall lenS (aCons (mLoc 4) aNil)) (mConst (.int 4))) tTrue))
  (sSeq (sExpr (mLM .append (mLoc 4) (aCons (mTup (aCons (mMeth D.cP "open" D.open_S (mLoc 2) (aCons (mBin .Add (mCall lenS (aCons (mLoc 4) aNil)) (mConst (.int 1))) aNil)) (aCons (mAttr D.cP "h" (mLoc 2)) (aCons (mAttr D.cP "v" (mLoc 2)) aNil)))) aNil)))
  (sSeq (sAssign (tName 6) (mList (aCons (mList aNil) (aCons (mList aNil) aNil))))
  sNil))
  (sSeq (sIf (tAnd (tCmp .Eq (mLoc 7) (mConst (.int 2))) (tAnd (tCmp .NotEq (mLoc 4) (mList aNil)) tTrue))
  (sSeq (sAssign (tTup [(tName 10), (tName 11), (tName 12)]) (mLM .pop (mLoc 4) aNil))
  (sSeq (sExpr (mMeth D.cP "close" D.close_S (mLoc 2) (aCons (mLoc 10) (aCons (mBin .Add (mCall lenS (aCons (mLoc 4) aNil)) (mConst (.int 1))) aNil))))
  (sSeq (sAssign (tTup [(tAttr D.cP "h" (mLoc 2)), (tAttr D.cP "v" (mLoc 2))]) (mTup (aCons (mLoc 11) (aCons (mLoc 12) aNil))))
  (sSeq (sSwap [5, 6] (mTup (aCons (mList (aCons (mLoc 11) (aCons (mLoc 12) aNil))) (aCons (mList (aCons (mList aNil) (aCons (mList aNil) aNil))) aNil))))
  sNil))))
  (sSeq (sIf (tCmp .Eq (mLoc 7) (mConst (.int 0)))
  (sSeq (sAssign (tName 5) (mList (aCons (mBin .Add (mSub (mLoc 5) (mConst (.int 0))) (mLoc 8)) (aCons (mBin .Add (mSub (mLoc 5) (mConst (.int 1))) (mLoc 9)) aNil))))
  (sSeq (sAssign (tName 13) (mList (aCons (mCmp .In (mLoc 8) (mSlice (mSub (mLoc 6) (mConst (.int 0))) (mUn .USub (mConst (.int 2))) (mConst .none))) (aCons (mCmp .In (mLoc 9) (mSlice (mSub (mLoc 6) (mConst (.int 1))) (mUn .USub (mConst (.int 2))) (mConst .none))) aNil))))
  (sSeq (sExpr (mMeth D.cP "special" D.specialS (mLoc 2) (aCons (mCall bytesS (aCons (mList (aCons (mCall lenS (aCons (mLoc 3) aNil)) aNil)) aNil)) (aCons (mSub (mLoc 5) (mConst (.int 0))) (aCons (mSub (mLoc 5) (mConst (.int 1))) aNil)))))
  (sSeq (sExpr (mLM .append (mLoc 3) (aCons (mTup (aCons (mSub (mLoc 5) (mConst (.int 0))) (aCons (mSub (mLoc 5) (mConst (.int 1))) (aCons (mLoc 8) (aCons (mLoc 9) (aCons (mSub (mLoc 13) (mConst (.int 0))) (aCons (mSub (mLoc 13) (mConst (.int 1))) aNil))))))) aNil)))
  (sSeq (sAssign (tName 6) (mList (aCons (mBin .Add (mSub (mLoc 6) (mConst (.int 0))) (mBin .Mult (mList (aCons (mLoc 8) aNil)) (mCall intS (aCons (mCmp .NotEq (mLoc 8) (mConst (.int 0))) aNil)))) (aCons (mBin .Add (mSub (mLoc 6) (mConst (.int 1))) (mBin .Mult (mList (aCons (mLoc 9) aNil)) (mCall intS (aCons (mCmp .NotEq (mLoc 9) (mConst (.int 0))) aNil)))) aNil))))
  sNil)))))
  sNil)
  sNil))
  sNil))
  sNil) ρ H K := rfl

section
variable {D : Ad} {H : AHeap} {A : PA} {raa rad : List Addr} {lf l3 l4 l5 l6 x y : Addr} {as rws kps : List Addr} {ts : List Trip} {W : WSt}
theorem step_push (hD1 : D.open_S = openS D.cM D.cP) (I : WAt D.cM D.cP H A raa rad lf l3 l4 l5 l6 x y as rws kps ts W) {t : Trip} (hp : WPre W t) (h1 : t.what = 1) (h4 : W.kept.length < 4) (s op x10 x11 x12 x13 : Option AV) (K : PS)
    (h : ∀ H' raa' rad' l5' l6' x' y' rws' kps' x10 x11 x12 x13, WAt D.cM D.cP H' A raa' rad' lf l3 l4 l5' l6' x' y' as rws' kps' ts (wpush W) → K .next [s, op, some (.ref A.pg), some (.ref l3), some (.ref l4), some (.ref l5'), some (.ref l6'), some (.int t.what), some (.int t.aside), some (.int t.down), x10, x11, x12, x13] H') :
    writtenB D [s, op, some (.ref A.pg), some (.ref l3), some (.ref l4), some (.ref l5), some (.ref l6), some (.int t.what), some (.int t.aside), some (.int t.down), x10, x11, x12, x13] H K := by
  have hk := I.t4.length
  have lk : ∀ (H' : AHeap) (P : AV → AHeap → Prop), H' l4 = some (.list (kps.map .ref)) → lenS [.ref l4] H' P = P (.int W.kept.length) H' := fun H' P e => by
    rw [e_len e (by simp [LIM]; omega), List.length_map, hk]
  rw [writtenB_run]
  refine r_seq ?_
  try simp (disch := omega) only [e_sIf, e_tAnd, l_z, l_s, c_Eq, mConst, tCmp, mCall, aCons, aNil, tTrue, decide_eq_true_eq, if_true, Bool.false_eq_true, if_false]
  rw [if_pos h1, lk _ _ I.h4]
  try simp (disch := omega) only [c_Lt, decide_eq_true_eq]
  rw [if_pos (by omega)]
  refine r_seq ?_
  try simp (disch := omega) only [k_next, l_z, l_s, e_lm, sExpr]
  rw [e_lmH I.h4]
  try simp (disch := omega) only [l_z, l_s, e_meth, mAttr, e_mTup, aCons, aNil]
  rw [e_methH I.pa.pg I.pa.dp rfl]
  try simp (disch := omega) only [l_z, l_s, mConst, mBin, mCall, aCons, aNil]
  rw [lk _ _ I.h4, b_Add, hD1]
  refine ⟨A, raa, rad, W.S, rfl, I.pa, ⟨hp.ok, by omega⟩, fun H1 raa1 rad1 p1 K1 s1 g1 => ?_⟩
  have I1 := I.page p1 K1 s1
  dsimp only at p1 I1 ⊢
  rw [p1.geth]
  rw [p1.getv]
  refine ⟨by show 3 ≤ 1000; decide, nw fun tk H2 htk f2 K2 g2 => ?_⟩
  have I2 := I1.kp0 K2
  rw [e_append I2.h4 (by simp [LIM]; omega)]
  refine r_seq ?_
  try simp (disch := omega) only [k_next, e_nil, sAssign, tName, List.set_cons_zero, List.set_cons_succ, e_mList, aCons, aNil]
  have K3 : Kp [l4] H2 (upd H2 l4 (.list (kps.map AV.ref ++ [.ref tk]))) := Kp.upd _ (by simp)
  have ntk : tk ≠ l4 := fun e => by rw [e, I1.h4] at htk; cases htk
  have e3 : upd H2 l4 (.list (kps.map AV.ref ++ [.ref tk])) l4 = some (.list ((kps ++ [tk]).map AV.ref)) := by rw [upd_self, List.map_append]; rfl
  have ek : (AObj.tup [.int ((openP W.S (W.kept.length + 1)).oct.length), .int (openP W.S (W.kept.length + 1)).h, .int (openP W.S (W.kept.length + 1)).v]) = keptO ⟨(openP W.S (W.kept.length + 1)).oct.length, W.S.h, W.S.v⟩ := by
    unfold openP keptO intsV
    split <;> rfl
  rw [ek] at f2
  have t3 : Tab keptO (upd H2 l4 (.list (kps.map AV.ref ++ [.ref tk]))) (kps ++ [tk]) (W.kept ++ [⟨(openP W.S (W.kept.length + 1)).oct.length, W.S.h, W.S.v⟩]) := by
    refine (I2.t4.kp K3 fun a ha => ?_).append (.cons (K3 _ _ f2 (by simp [ntk])) .nil)
    obtain ⟨b, _, e⟩ := I2.t4.mem a ha
    simp; exact ne_of_obj e I2.h4 (by simp [keptO])
  have I3 := I2.kepts K3 e3 t3
  generalize upd H2 l4 (.list (kps.map AV.ref ++ [.ref tk])) = H3 at I3
  refine ⟨by show 0 ≤ 1000; decide, nw fun x' Ha hx' fa Ka ga => ?_⟩
  refine ⟨by show 0 ≤ 1000; decide, nw fun y' Hb hy' fb Kb gb => ?_⟩
  refine ⟨by show 2 ≤ 1000; decide, nw fun l6' Hc hl' fc Kc gc => ?_⟩
  have I4 := I3.kp0 ((Ka.trans Kb).trans Kc)
  have fx := Kc _ _ (Kb _ _ fa (by simp)) (by simp)
  have fy := Kc _ _ fb (by simp)
  have qx := I3.fresh hx'
  have qy := I3.fresh (ga _ hy')
  have ql := I3.fresh (ga _ (gb _ hl'))
  refine h Hc raa1 rad1 l5 l6' x' y' rws (kps ++ [tk]) _ _ _ _ ?_
  exact I4.turn I4.h5 fc fx fy fun a ha => by
    simp only [List.mem_cons, List.not_mem_nil, or_false] at ha
    rcases ha with rfl | rfl | rfl | rfl
    · exact ⟨I4.n _ (by simp), I4.n' _ (by simp)⟩
    · exact ql
    · exact qx
    · exact qy
theorem step_pop (hD1 : D.close_S = closeS D.cM D.cP) (I : WAt D.cM D.cP H A raa rad lf l3 l4 l5 l6 x y as rws kps ts W) {t : Trip} (hp : WPre W t) (h1 : t.what = 2) {k : Kept} (hk : W.kept.getLast? = some k) (s op x10 x11 x12 x13 : Option AV) (K : PS)
    (h : ∀ H' raa' rad' l5' l6' x' y' rws' kps' x10 x11 x12 x13, WAt D.cM D.cP H' A raa' rad' lf l3 l4 l5' l6' x' y' as rws' kps' ts (wpop W k) → K .next [s, op, some (.ref A.pg), some (.ref l3), some (.ref l4), some (.ref l5'), some (.ref l6'), some (.int t.what), some (.int t.aside), some (.int t.down), x10, x11, x12, x13] H') :
    writtenB D [s, op, some (.ref A.pg), some (.ref l3), some (.ref l4), some (.ref l5), some (.ref l6), some (.int t.what), some (.int t.aside), some (.int t.down), x10, x11, x12, x13] H K := by
  have hkl := I.t4.length
  obtain ⟨ks, ek⟩ : ∃ ks, W.kept = ks ++ [k] := by
    rcases List.eq_nil_or_concat W.kept with e | ⟨ks, k', e⟩
    · rw [e] at hk; cases hk
    · rw [List.concat_eq_append] at e
      rw [e, List.getLast?_append] at hk
      simp at hk
      exact ⟨ks, by rw [e, hk]⟩
  have hne : W.kept ≠ [] := by rw [ek]; simp
  have hk4 := hp.k4
  rw [writtenB_run]
  refine r_seq ?_
  try simp (disch := omega) only [e_sIf, e_tAnd, l_z, l_s, c_Eq, mConst, tCmp, mCall, aCons, aNil, tTrue, decide_eq_true_eq, if_true, Bool.false_eq_true, if_false]
  rw [if_neg (by omega)]
  refine r_seq ?_
  try simp (disch := omega) only [e_sIf, e_tAnd, l_z, l_s, c_Eq, mConst, tCmp, e_mList, aNil, tTrue, decide_eq_true_eq, if_true, Bool.false_eq_true, if_false]
  rw [if_pos h1]
  refine ⟨by show 0 ≤ 1000; decide, nw fun y1 Ha hy1 fa Ka ga => ?_⟩
  have Ia := I.kp0 Ka
  refine ne_nil Ia.h4 fa (by simp [LIM]; omega) ?_
  try simp (disch := omega) only [decide_eq_true_eq]
  rw [if_pos (by rw [ek] at hkl; intro e; simp at e; rw [e] at hkl; simp at hkl)]
  refine r_seq ?_
  try simp (disch := omega) only [k_next, l_z, l_s, e_lm, sAssign, tt3]
  rw [e_lmH Ia.h4]
  try simp (disch := omega) only [aNil]
  obtain ⟨kps', kp, rfl, T1, T2⟩ := Tab.split (ek ▸ Ia.t4)
  cases T2 with | @cons a _ as' _ e1 T2 =>
  cases T2
  have e0 : Ha l4 = some (.list (kps'.map AV.ref ++ [.ref a])) := by rw [Ia.h4, List.map_append]; rfl
  rw [e_pop e0 (by simp [LIM]; simp at hkl; omega)]
  have Kb : Kp [l4] Ha (upd Ha l4 (.list (kps'.map AV.ref))) := Kp.upd _ (by simp)
  have na : a ≠ l4 := ne_of_obj e1 e0 (by simp [keptO])
  have Ib := Ia.kepts (kps' := kps') (kept' := ks) Kb (upd_self _ _ _) (T1.kp Kb fun b hb => by
    obtain ⟨z, _, q⟩ := T1.mem b hb
    simp; exact ne_of_obj q e0 (by simp [keptO]))
  have e1b := Kb _ _ e1 (by simp [na])
  generalize upd Ha l4 (.list (kps'.map AV.ref)) = Hb at Ib e1b Kb
  rw [e_seqL (n := 3) (.inr e1b) rfl]
  show tEach [tName 10, tName 11, tName 12] [.int k.b, .int k.h, .int k.v] _ _ _
  try simp (disch := omega) only [tName, te_c, te_n, List.set_cons_zero, List.set_cons_succ]
  refine r_seq ?_
  try simp (disch := omega) only [k_next, l_z, l_s, e_meth, sExpr]
  rw [e_methH Ib.pa.pg Ib.pa.dp rfl]
  try simp (disch := omega) only [l_z, l_s, mConst, mBin, mCall, aCons, aNil]
  have lks : ks.length = kps'.length := (T1.length).symm
  rw [e_len Ib.h4 (by simp [LIM]; simp at hkl; omega), List.length_map, ← lks]
  try simp (disch := omega) only [b_Add]
  rw [hD1]
  have ekl : (ks.length : Int) + 1 = (W.kept.length : Int) := by rw [ek]; simp
  rw [ekl]
  refine ⟨A, raa, rad, W.S, rfl, Ib.pa, ⟨hp.ok, fun _ => hp.ne hne⟩, fun H1 raa1 rad1 p1 K1 s1 g1 => ?_⟩
  have I1 := Ib.page p1 K1 s1
  dsimp only at p1 I1 ⊢
  refine r_seq ?_
  try simp (disch := omega) only [k_next, l_z, l_s, sAssign, tt2, e_mTup, aCons, aNil]
  refine ⟨by show 2 ≤ 1000; decide, nw fun tk H2 htk f2 K2 g2 => ?_⟩
  have I2 := I1.kp0 K2
  rw [e_seqL (n := 2) (.inr f2) rfl]
  try simp (disch := omega) only [l_z, l_s, tAttr, te_c, te_n]
  rw [I2.pa.seth]
  have p3 := I2.pa.attrs { closeP W.S k.b W.kept.length with h := k.h } rfl rfl rfl
  have K3 : Kp (A.dp :: LX A raa1 rad1) H2 (upd H2 A.dp (.attrs (attrsOf A { closeP W.S k.b W.kept.length with h := k.h }))) := Kp.upd _ (by simp)
  have I3 := I2.page p3 K3 fun a ha => .inl ha
  dsimp only at I3 p3 K3 ⊢
  generalize upd H2 A.dp (.attrs (attrsOf A { closeP W.S k.b W.kept.length with h := k.h })) = H3 at I3 p3 K3
  rw [p3.setv]
  have p4 := p3.attrs { closeP W.S k.b W.kept.length with h := k.h, v := k.v } rfl rfl rfl
  have K4 : Kp (A.dp :: LX A raa1 rad1) H3 (upd H3 A.dp (.attrs (attrsOf A { closeP W.S k.b W.kept.length with h := k.h, v := k.v }))) := Kp.upd _ (by simp)
  have I4 := I3.page p4 K4 fun a ha => .inl ha
  dsimp only at I4 p4 K4 ⊢
  generalize upd H3 A.dp (.attrs (attrsOf A { closeP W.S k.b W.kept.length with h := k.h, v := k.v })) = H4 at I4 p4 K4
  refine r_seq ?_
  rw [sw2]
  try simp (disch := omega) only [k_next, e_nil, l_z, l_s, e_mTup, e_mList, aCons, aNil]
  refine ⟨by show 2 ≤ 1000; decide, nw fun l5' Hc hl5 fc Kc gc => ?_⟩
  refine ⟨by show 0 ≤ 1000; decide, nw fun x' Hd hx' fd Kd gd => ?_⟩
  refine ⟨by show 0 ≤ 1000; decide, nw fun y' He hy' fe Ke ge => ?_⟩
  refine ⟨by show 2 ≤ 1000; decide, nw fun l6' Hf hl6 ff Kf gf => ?_⟩
  refine ⟨by show 2 ≤ 1000; decide, nw fun z6 Hg hz6 fg Kg gg => ?_⟩
  rw [e_seqL (n := 2) (.inr fg) rfl]
  show tEach [tName 6, tName 5] [.ref l6', .ref l5'] _ _ _
  try simp (disch := omega) only [tName, te_c, te_n, List.set_cons_zero, List.set_cons_succ]
  have I5 := I4.kp0 ((((Kc.trans Kd).trans Ke).trans Kf).trans Kg)
  have q5 := I4.fresh hl5
  have qx := I4.fresh (gc _ hx')
  have qy := I4.fresh (gc _ (gd _ hy'))
  have q6 := I4.fresh (gc _ (gd _ (ge _ hl6)))
  have f5 := ((((Kd.trans Ke).trans Kf).trans Kg) _ _ fc (by simp))
  have fx := (((Ke.trans Kf).trans Kg) _ _ fd (by simp))
  have fy := ((Kf.trans Kg) _ _ fe (by simp))
  have f6 := (Kg _ _ ff (by simp))
  refine h Hg raa1 rad1 l5' l6' x' y' rws kps' _ _ _ _ ?_
  have I6 := I5.turn (sh := k.h) (sv := k.v) (la := []) (ld := []) f5 f6 fx fy fun a ha => by
    simp only [List.mem_cons, List.not_mem_nil, or_false] at ha
    rcases ha with rfl | rfl | rfl | rfl
    · exact q5
    · exact q6
    · exact qx
    · exact qy
  have ed : W.kept.dropLast = ks := by rw [ek]; simp
  unfold wpop
  rw [ed]
  exact I6
end
end
section
set_option genSizeOf false
set_option genSizeOfSpec false
set_option maxRecDepth 100000
set_option autoImplicit false
section
variable {D : Ad} {H : AHeap} {A : PA} {raa rad : List Addr} {lf l3 l4 l5 l6 x y : Addr} {as rws kps : List Addr} {ts : List Trip} {W : WSt}
theorem sub0 {l : Addr} {H : AHeap} {u v : AV} {r : List AV} (h : H l = some (.list (u :: v :: r))) (P : AV → AHeap → Prop) : subS (.ref l) (.int 0) H P = P u H :=
  e_sub (.inl h) (by decide) (by unfold idxOf; simp) (by unfold idxOf; simp) P
theorem sub1 {l : Addr} {H : AHeap} {u v : AV} {r : List AV} (h : H l = some (.list (u :: v :: r))) (P : AV → AHeap → Prop) : subS (.ref l) (.int 1) H P = P v H :=
  e_sub (.inl h) (by decide) (by unfold idxOf; simp) (by unfold idxOf; simp) P
theorem nz1_rep (a : Int) : (List.replicate (Int.toNat (if (decide (a ≠ 0)) = true then 1 else 0)) [AV.int a]).flatten = intsV (nz1 a) := by
  unfold nz1
  by_cases q : a = 0
  · subst q; rfl
  · simp [q, intsV]
theorem nz1_rep' (a : Int) : (List.replicate (Int.toNat (if a ≠ 0 then 1 else 0)) [AV.int a]).flatten = intsV (nz1 a) := by
  unfold nz1
  by_cases q : a = 0
  · subst q; rfl
  · simp [q, intsV]
theorem step_mark (hD1 : D.specialS = specialS D.cM D.cP) (I : WAt D.cM D.cP H A raa rad lf l3 l4 l5 l6 x y as rws kps ts W) {t : Trip} (hp : WPre W t) (h1 : t.what = 0) (s op x10 x11 x12 x13 : Option AV) (K : PS)
    (h : ∀ H' raa' rad' l5' l6' x' y' rws' kps' x10 x11 x12 x13, WAt D.cM D.cP H' A raa' rad' lf l3 l4 l5' l6' x' y' as rws' kps' ts (wmark W t.aside t.down) → K .next [s, op, some (.ref A.pg), some (.ref l3), some (.ref l4), some (.ref l5'), some (.ref l6'), some (.int t.what), some (.int t.aside), some (.int t.down), x10, x11, x12, x13] H') :
    writtenB D [s, op, some (.ref A.pg), some (.ref l3), some (.ref l4), some (.ref l5), some (.ref l6), some (.int t.what), some (.int t.aside), some (.int t.down), x10, x11, x12, x13] H K := by
  have hr := I.t3.length
  obtain ⟨g1, g2, b1, b2⟩ := hp.mark h1
  have hrw := hp.rw
  have hla := hp.lla
  have hld := hp.lld
  rw [writtenB_run]
  refine r_seq ?_
  try simp (disch := omega) only [e_sIf, e_tAnd, l_z, l_s, c_Eq, mConst, tCmp, mCall, aCons, aNil, tTrue, decide_eq_true_eq, if_true, Bool.false_eq_true, if_false]
  rw [if_neg (by omega)]
  refine r_seq ?_
  try simp (disch := omega) only [e_sIf, e_tAnd, l_z, l_s, c_Eq, mConst, tCmp, e_mList, aNil, tTrue, decide_eq_true_eq, if_true, Bool.false_eq_true, if_false]
  rw [if_neg (by omega)]
  refine r_seq ?_
  try simp (disch := omega) only [k_next, e_nil, e_sIf, l_z, l_s, c_Eq, mConst, tCmp, decide_eq_true_eq]
  rw [if_pos h1]
  refine r_seq ?_
  try simp (disch := omega) only [k_next, l_z, l_s, sAssign, tName, List.set_cons_zero, List.set_cons_succ, mConst, mBin, e_mList, mSub, aCons, aNil]
  rw [sub0 I.h5]
  try simp (disch := omega) only [b_Add]
  rw [sub1 I.h5]
  try simp (disch := omega) only [b_Add]
  refine ⟨by show 2 ≤ 1000; decide, nw fun l5' Ha hl5 fa Ka ga => ?_⟩
  have Ia := I.kp0 Ka
  have q5 := I.fresh hl5
  refine r_seq ?_
  try simp (disch := omega) only [k_next, l_z, l_s, sAssign, tName, List.set_cons_zero, List.set_cons_succ, mCmp, e_mList, aCons, aNil]
  simp only [mSlice]
  try simp (disch := omega) only [l_z, l_s, u_Neg, mConst, mUn, mSub]
  rw [sub0 Ia.h6]
  simp only [partS]
  refine h_slice Ia.hx (by rw [intsV_length]; simp [LIM]; omega) (nw fun z1 Hb hz1 fb Kb gb => ?_)
  rw [pick_last2] at fb
  refine h_inL fb ?_
  have Ib := Ia.kp0 Kb
  rw [sub1 Ib.h6]
  refine h_slice Ib.hy (by rw [intsV_length]; simp [LIM]; omega) (nw fun z2 Hc hz2 fc Kc gc => ?_)
  rw [pick_last2] at fc
  refine h_inL fc ?_
  have Ic := Ib.kp0 Kc
  refine ⟨by show 2 ≤ 1000; decide, nw fun nr Hd hnr fd Kd gd => ?_⟩
  have Id := Ic.kp0 Kd
  refine r_seq ?_
  try simp (disch := omega) only [k_next, l_z, l_s, e_meth, sExpr]
  rw [e_methH Id.pa.pg Id.pa.dp rfl]
  try simp (disch := omega) only [l_z, l_s, mConst, mCall, e_mList, mSub, aCons, aNil]
  rw [e_len Id.h3 (by simp [LIM]; omega), List.length_map, hr]
  refine ⟨by show 1 ≤ 1000; decide, nw fun z3 He hz3 fe Ke ge => ?_⟩
  have Ie := Id.kp0 Ke
  have f5 := (((Kb.trans Kc).trans Kd).trans Ke) _ _ fa (by simp)
  refine ⟨[(W.rows.length : Int)], fe, by simp; omega, by show 1 ≤ 1000; decide, ?_⟩
  dsimp only [List.map_cons, List.map_nil]
  rw [sub0 f5]
  rw [sub1 f5]
  rw [hD1]
  have et : (((W.rows.length : Int).toNat.toUInt8).toNat : Int) = (W.rows.length : Int) := by
    rw [Int.toNat_natCast]
    have : W.rows.length.toUInt8.toNat = W.rows.length % 256 := by simp [Nat.toUInt8]
    rw [this]; omega
  refine ⟨A, raa, rad, W.S, rfl, Ie.pa, ⟨hp.ok, g1, g2, b1, b2⟩, fun H1 raa1 rad1 p1 K1 s1 gg1 => ?_⟩
  rw [et] at p1
  have I1 := Ie.page p1 K1 s1
  dsimp only at p1 I1 ⊢
  have n5 : l5' ∉ A.dp :: LX A raa rad := q5.1
  have nn : nr ∉ A.dp :: LX A raa rad := (Ic.fresh hnr).1
  have f5 := K1 _ _ f5 n5
  have fn := K1 _ _ (Ke _ _ fd (by simp)) nn
  refine r_seq ?_
  try simp (disch := omega) only [k_next, l_z, l_s, e_lm, sExpr]
  rw [e_lmH I1.h3]
  try simp (disch := omega) only [l_z, l_s, mConst, e_mTup, mSub, aCons, aNil]
  rw [sub0 f5]
  rw [sub1 f5]
  rw [sub0 fn]
  rw [sub1 fn]
  refine ⟨by show 6 ≤ 1000; decide, nw fun tk H2 htk f2 K2 g2 => ?_⟩
  have I2 := I1.kp0 K2
  rw [e_append I2.h3 (by simp [LIM]; omega)]
  have K3 : Kp [l3] H2 (upd H2 l3 (.list (rws.map AV.ref ++ [.ref tk]))) := Kp.upd _ (by simp)
  have ntk : tk ≠ l3 := fun e => by rw [e, I1.h3] at htk; cases htk
  have e3 : upd H2 l3 (.list (rws.map AV.ref ++ [.ref tk])) l3 = some (.list ((rws ++ [tk]).map AV.ref)) := by rw [upd_self, List.map_append]; rfl
  have t3 : Tab wrowO (upd H2 l3 (.list (rws.map AV.ref ++ [.ref tk]))) (rws ++ [tk]) (W.rows ++ [⟨W.sh + t.aside, W.sv + t.down, t.aside, t.down, (last2 W.la).contains t.aside, (last2 W.ld).contains t.down⟩]) := by
    refine (I2.t3.kp K3 fun a ha => ?_).append (.cons (K3 _ _ f2 (by simp [ntk])) .nil)
    obtain ⟨b, _, e⟩ := I2.t3.mem a ha
    simp; exact ne_of_obj e I2.h3 (by simp [wrowO])
  have I3 := I2.rows K3 e3 t3
  have f5 := K3 _ _ (K2 _ _ f5 (by simp)) (by simp [q5.2.1])
  generalize upd H2 l3 (.list (rws.map AV.ref ++ [.ref tk])) = H3 at I3 f5
  refine r_seq ?_
  try simp (disch := omega) only [k_next, e_nil, l_z, l_s, c_Ne, e_intb, sAssign, tName, List.set_cons_zero, List.set_cons_succ, mConst, mBin, mCmp, mCall, e_mList, mSub, aCons, aNil, decide_eq_true_eq]
  rw [sub0 I3.h6]
  refine ⟨by show 1 ≤ 1000; decide, nw fun z4 Hf hz4 ff Kf gf => ?_⟩
  have I4 := I3.kp0 Kf
  refine h_mulL ff (by split <;> decide) (by split <;> decide) (by show 1 ≤ 1000; decide) (nw fun z5 Hg hz5 fg Kg gg => ?_)
  rw [nz1_rep'] at fg
  have I5 := I4.kp0 Kg
  have lnz : ∀ a, (nz1 a).length ≤ 1 := fun a => by unfold nz1; split <;> simp
  have lnz1 := lnz t.aside
  have lnz2 := lnz t.down
  refine h_addL I5.hx fg (by rw [intsV_length, intsV_length]; simp [LIM]; omega) (nw fun x' Hh hx' fh Kh gh => ?_)
  rw [← intsV_append] at fh
  have I6 := I5.kp0 Kh
  rw [sub1 I6.h6]
  refine ⟨by show 1 ≤ 1000; decide, nw fun z6 Hi hz6 fi Ki gi => ?_⟩
  have I7 := I6.kp0 Ki
  refine h_mulL fi (by split <;> decide) (by split <;> decide) (by show 1 ≤ 1000; decide) (nw fun z7 Hj hz7 fj Kj gj => ?_)
  rw [nz1_rep'] at fj
  have I8 := I7.kp0 Kj
  refine h_addL I8.hy fj (by rw [intsV_length, intsV_length]; simp [LIM]; omega) (nw fun y' Hk hy' fk Kk gk => ?_)
  rw [← intsV_append] at fk
  have I9 := I8.kp0 Kk
  refine ⟨by show 2 ≤ 1000; decide, nw fun l6' Hl hl6 fl Kl gl => ?_⟩
  have I10 := I9.kp0 Kl
  have qx := I5.fresh hx'
  have qy := I8.fresh hy'
  have q6 := I9.fresh hl6
  have Kfl : Kp [] H3 Hl := ((((((Kf.trans Kg).trans Kh).trans Ki).trans Kj).trans Kk).trans Kl)
  have f5 := Kfl _ _ f5 (by simp)
  have fx := ((((Ki.trans Kj).trans Kk).trans Kl)) _ _ fh (by simp)
  have fy := Kl _ _ fk (by simp)
  have q5' : l5' ∉ A.dp :: LX A raa1 rad1 := fun m => by
    rcases lx_sub s1 l5' m with q | q
    · exact q5.1 q
    · have := (((Kb.trans Kc).trans Kd).trans Ke) _ _ fa (by simp)
      rw [q] at this; cases this
  refine h Hl raa1 rad1 l5' l6' x' y' (rws ++ [tk]) kps _ _ _ _ ?_
  exact I10.turn (sh := W.sh + t.aside) (sv := W.sv + t.down) (la := W.la ++ nz1 t.aside) (ld := W.ld ++ nz1 t.down) f5 fl fx fy fun a ha => by
    simp only [List.mem_cons, List.not_mem_nil, or_false] at ha
    rcases ha with rfl | rfl | rfl | rfl
    · exact ⟨q5', q5.2⟩
    · exact q6
    · exact qx
    · exact qy
end
theorem wstep_all (W : WSt) (t : Trip) : (t.what = 1 ∧ W.kept.length < 4 ∧ wstep W t = wpush W) ∨ (t.what = 2 ∧ ∃ k, W.kept.getLast? = some k ∧ wstep W t = wpop W k) ∨ (t.what = 0 ∧ wstep W t = wmark W t.aside t.down) ∨
    (¬ (t.what = 1 ∧ W.kept.length < 4) ∧ ¬ (t.what = 2 ∧ W.kept ≠ []) ∧ t.what ≠ 0 ∧ wstep W t = W) := by
  unfold wstep
  by_cases h1 : t.what = 1 ∧ W.kept.length < 4
  · rw [if_pos h1]; exact .inl ⟨h1.1, h1.2, rfl⟩
  rw [if_neg h1]
  by_cases h2 : t.what = 2
  · rw [if_pos h2]
    cases e : W.kept.getLast? with
    | none => exact .inr (.inr (.inr ⟨h1, fun q => q.2 (List.getLast?_eq_none_iff.mp e), by omega, rfl⟩))
    | some k => exact .inr (.inl ⟨h2, k, rfl, rfl⟩)
  rw [if_neg h2]
  by_cases h3 : t.what = 0
  · rw [if_pos h3]; exact .inr (.inr (.inl ⟨h3, rfl⟩))
  · rw [if_neg h3]; exact .inr (.inr (.inr ⟨h1, fun q => h2 q.1, h3, rfl⟩))
section
variable {D : Ad} {H : AHeap} {A : PA} {raa rad : List Addr} {lf l3 l4 l5 l6 x y : Addr} {as rws kps : List Addr} {ts : List Trip} {W : WSt}
theorem step_idle (I : WAt D.cM D.cP H A raa rad lf l3 l4 l5 l6 x y as rws kps ts W) {t : Trip} (hp : WPre W t) (h1 : ¬ (t.what = 1 ∧ W.kept.length < 4)) (h2 : ¬ (t.what = 2 ∧ W.kept ≠ [])) (h3 : t.what ≠ 0) (s op x10 x11 x12 x13 : Option AV) (K : PS)
    (h : ∀ H', Kp [] H H' → K .next [s, op, some (.ref A.pg), some (.ref l3), some (.ref l4), some (.ref l5), some (.ref l6), some (.int t.what), some (.int t.aside), some (.int t.down), x10, x11, x12, x13] H') :
    writtenB D [s, op, some (.ref A.pg), some (.ref l3), some (.ref l4), some (.ref l5), some (.ref l6), some (.int t.what), some (.int t.aside), some (.int t.down), x10, x11, x12, x13] H K := by
  have hkl := I.t4.length
  have hk4 := hp.k4
  rw [writtenB_run]
  refine r_seq ?_
  try simp (disch := omega) only [e_sIf, e_tAnd, l_z, l_s, c_Eq, mConst, tCmp, mCall, aCons, aNil, tTrue, decide_eq_true_eq, if_true, Bool.false_eq_true, if_false]
  by_cases q1 : t.what = 1
  · rw [if_pos q1, e_len I.h4 (by simp [LIM]; omega), List.length_map, hkl]
    try simp (disch := omega) only [c_Lt, decide_eq_true_eq]
    rw [if_neg (fun e : (W.kept.length : Int) < 4 => h1 ⟨q1, Int.ofNat_lt.mp e⟩)]
    refine r_seq ?_
    try simp (disch := omega) only [e_sIf, e_tAnd, l_z, l_s, c_Eq, mConst, tCmp, e_mList, aNil, tTrue, decide_eq_true_eq, if_true, Bool.false_eq_true, if_false]
    rw [if_neg (by omega)]
    refine r_seq ?_
    try simp (disch := omega) only [k_next, e_nil, e_sIf, l_z, l_s, c_Eq, mConst, tCmp, decide_eq_true_eq]
    rw [if_neg h3]
    exact h _ (Kp.refl _ _)
  · rw [if_neg q1]
    refine r_seq ?_
    try simp (disch := omega) only [e_sIf, e_tAnd, l_z, l_s, c_Eq, mConst, tCmp, e_mList, aNil, tTrue, decide_eq_true_eq, if_true, Bool.false_eq_true, if_false]
    by_cases q2 : t.what = 2
    · rw [if_pos q2]
      refine ⟨by show 0 ≤ 1000; decide, nw fun y1 Ha hy1 fa Ka ga => ?_⟩
      have Ia := I.kp0 Ka
      refine ne_nil Ia.h4 fa (by simp [LIM]; omega) ?_
      try simp (disch := omega) only [decide_eq_true_eq]
      rw [if_neg (by
        intro q
        have e : W.kept = [] := Classical.not_not.mp fun e => h2 ⟨q2, e⟩
        rw [e] at hkl
        have : kps = [] := List.length_eq_zero_iff.mp hkl
        rw [this] at q; exact q rfl)]
      refine r_seq ?_
      try simp (disch := omega) only [k_next, e_nil, e_sIf, l_z, l_s, c_Eq, mConst, tCmp, decide_eq_true_eq]
      rw [if_neg h3]
      exact h _ Ka
    · rw [if_neg q2]
      refine r_seq ?_
      try simp (disch := omega) only [k_next, e_nil, e_sIf, l_z, l_s, c_Eq, mConst, tCmp, decide_eq_true_eq]
      rw [if_neg h3]
      exact h _ (Kp.refl _ _)
theorem written_step (hD1 : D.open_S = openS D.cM D.cP) (hD2 : D.close_S = closeS D.cM D.cP) (hD3 : D.specialS = specialS D.cM D.cP) (I : WAt D.cM D.cP H A raa rad lf l3 l4 l5 l6 x y as rws kps ts W) {t : Trip} (hp : WPre W t) (s op x10 x11 x12 x13 : Option AV) (K : PS)
    (h : ∀ H' raa' rad' l5' l6' x' y' rws' kps' x10 x11 x12 x13, WAt D.cM D.cP H' A raa' rad' lf l3 l4 l5' l6' x' y' as rws' kps' ts (wstep W t) → K .next [s, op, some (.ref A.pg), some (.ref l3), some (.ref l4), some (.ref l5'), some (.ref l6'), some (.int t.what), some (.int t.aside), some (.int t.down), x10, x11, x12, x13] H') :
    writtenB D [s, op, some (.ref A.pg), some (.ref l3), some (.ref l4), some (.ref l5), some (.ref l6), some (.int t.what), some (.int t.aside), some (.int t.down), x10, x11, x12, x13] H K := by
  rcases wstep_all W t with ⟨h1, h2, e⟩ | ⟨h1, k, h2, e⟩ | ⟨h1, e⟩ | ⟨h1, h2, h3, e⟩
  · rw [e] at h; exact step_push hD1 I hp h1 h2 _ _ _ _ _ _ _ h
  · rw [e] at h; exact step_pop hD2 I hp h1 h2 _ _ _ _ _ _ _ h
  · rw [e] at h; exact step_mark hD3 I hp h1 _ _ _ _ _ _ _ h
  · rw [e] at h; exact step_idle I hp h1 h2 h3 _ _ _ _ _ _ _ fun H' K' => h _ _ _ _ _ _ _ _ _ _ _ _ _ (I.kp0 K')
theorem written_loop (hD1 : D.open_S = openS D.cM D.cP) (hD2 : D.close_S = closeS D.cM D.cP) (hD3 : D.specialS = specialS D.cM D.cP) (s op : Option AV) (K : PS) : ∀ (bs : List Addr) (us pre : List Trip) (pas : List Addr) (W : WSt) (H : AHeap) (raa rad : List Addr) (l5 l6 x y : Addr) (rws kps : List Addr) (x7 x8 x9 x10 x11 x12 x13 : Option AV),
    as = pas ++ bs → ts = pre ++ us → pas.length = pre.length → WAt D.cM D.cP H A raa rad lf l3 l4 l5 l6 x y as rws kps ts W → wgood W us →
    (∀ H' raa' rad' l5' l6' x' y' rws' kps' x7 x8 x9 x10 x11 x12 x13, WAt D.cM D.cP H' A raa' rad' lf l3 l4 l5' l6' x' y' as rws' kps' ts (us.foldl wstep W) → K .next [s, op, some (.ref A.pg), some (.ref l3), some (.ref l4), some (.ref l5'), some (.ref l6'), x7, x8, x9, x10, x11, x12, x13] H') →
    forL (tTup [(tName 7), (tName 8), (tName 9)]) (writtenB D) lf (as.map .ref) (bs.map .ref) [s, op, some (.ref A.pg), some (.ref l3), some (.ref l4), some (.ref l5), some (.ref l6), x7, x8, x9, x10, x11, x12, x13] H K := by
  intro bs
  induction bs with
  | nil =>
    intro us pre pas W H raa rad l5 l6 x y rws kps x7 x8 x9 x10 x11 x12 x13 e1 e2 e3 I hg h
    have hl := I.tf.length
    have : us = [] := by
      have h1 := congrArg List.length e1
      have h2 := congrArg List.length e2
      simp at h1 h2
      exact List.length_eq_zero_iff.mp (by omega)
    subst this
    exact ⟨I.hf, h H raa rad l5 l6 x y rws kps _ _ _ _ _ _ _ I⟩
  | cons b bs ih =>
    intro us pre pas W H raa rad l5 l6 x y rws kps x7 x8 x9 x10 x11 x12 x13 e1 e2 e3 I hg h
    have hl := I.tf.length
    cases us with
    | nil =>
      have h1 := congrArg List.length e1
      have h2 := congrArg List.length e2
      simp at h1 h2
      omega
    | cons t us =>
      obtain ⟨hp, hg⟩ := hg
      have hb : H b = some (tripO t) := by
        obtain ⟨a, h1, h2⟩ := I.tf.get (i := pre.length) (b := t) (by rw [e2]; simp)
        rw [e1, ← e3] at h1
        simp at h1
        rw [h1]; exact h2
      refine ⟨I.hf, ?_⟩
      rw [tt3, e_seqL (n := 3) (.inr hb) rfl]
      show tEach [tName 7, tName 8, tName 9] [.int t.what, .int t.aside, .int t.down] _ _ _
      try simp (disch := omega) only [tName, te_c, te_n, List.set_cons_zero, List.set_cons_succ]
      refine written_step hD1 hD2 hD3 I hp _ _ _ _ _ _ _ fun H' raa' rad' l5' l6' x' y' rws' kps' x10 x11 x12 x13 I' => ?_
      rw [t_next]
      exact ih us (pre ++ [t]) (pas ++ [b]) (wstep W t) H' raa' rad' l5' l6' x' y' rws' kps' _ _ _ _ _ _ _ (by rw [e1]; simp) (by rw [e2]; simp) (by simp [e3]) I' hg h
end
end
section
set_option genSizeOf false
set_option genSizeOfSpec false
set_option maxRecDepth 100000
set_option autoImplicit false
theorem new_page {cM cP : Addr} {ρ : Loc} {H : AHeap} {P : AV → AHeap → Prop} (h : ∀ H' A, Kp [] H H' → PageAt cM cP H' A [] [] S0 → (∀ a ∈ A.dp :: LX A [] [], H a = none) → P (.ref A.pg) H') :
    mNew cP (pageInitS cM cP) (aCons mDict (aCons (mConst (.int 4)) aNil)) ρ H P := by
  unfold mNew
  simp only [mDict, aCons, aNil, mConst]
  intro fd hfd hsm x dx hdx hx ne
  have Kf : Kp [] H (upd H fd .edict) := Kp.new _ hfd
  have ff : upd H fd .edict fd = some .edict := upd_self _ _ _
  have gf : ∀ a, upd H fd .edict a = none → H a = none := fun a => upd_none
  generalize upd H fd .edict = H1 at *
  have f1 : upd (upd H1 dx (.attrs [])) x (.inst cP dx) dx = some (.attrs []) := by rw [upd_ne _ _ (Ne.symm ne), upd_self]
  have n1 : fd ≠ dx := fun e => by rw [e, hdx] at ff; cases ff
  have n2 : fd ≠ x := fun e => by rw [e, hx] at ff; cases ff
  refine ⟨rfl, dx, upd_self _ _ _, f1, by rw [upd_ne _ _ n2, upd_ne _ _ n1]; exact ff, hsm, fun H' A ea ed p K fr g => ⟨rfl, ?_⟩⟩
  subst ea
  have Kx : Kp [] H1 (upd (upd H1 dx (.attrs [])) A.pg (.inst cP dx)) := (Kp.new _ hdx).trans (Kp.new _ (by rw [upd_ne _ _ ne]; exact hx))
  have hdn : H dx = none := gf _ hdx
  refine h H' A ?_ p ?_
  · intro a o e _
    refine K a o (Kx a o (Kf a o e (by simp)) (by simp)) ?_
    simp
    rintro rfl
    rw [hdn] at e; cases e
  · intro a ha
    simp only [LX, List.append_nil, List.mem_cons, List.not_mem_nil, or_false] at ha
    have g2 : ∀ a, upd (upd H1 dx (.attrs [])) A.pg (.inst cP dx) a = none → H a = none := fun a ha => gf a (upd_none (upd_none ha))
    rcases ha with rfl | rfl | rfl | rfl
    · rw [ed]; exact hdn
    · exact g2 _ (fr _ (by simp))
    · exact g2 _ (fr _ (by simp))
    · exact g2 _ (fr _ (by simp))
theorem law_written_run (D : Ad) (ρ : Loc) (H : AHeap) (K : PS) : m_law_written D ρ H K = (sSeq (sAssign (tTup [(tName 2), (tName 3), (tName 4), (tName 5), (tName 6)]) (mTup (aCons (mNew D.cP D.pageInitS (aCons mDict (aCons (mConst (.int 4)) aNil))) (aCons (mList aNil) (aCons (mList aNil) (aCons (mList (aCons (mConst (.int 0)) (aCons (mConst (.int 0)) aNil))) (aCons (mList (aCons (mList aNil) (aCons (mList aNil) aNil))) aNil)))))))
  (sSeq (sAssign (tName 1) (mMeth D.cP "open" D.open_S (mLoc 2) (aCons (mConst (.int 0)) aNil)))
  (sSeq (sFor (tTup [(tName 7), (tName 8), (tName 9)]) (mBin .Add (mLoc 0) (mBin .Mult (mList (aCons (mTup (aCons (mConst (.int 2)) (aCons (mConst (.int 0)) (aCons (mConst (.int 0)) aNil)))) aNil)) (mConst (.int 4))))
  (writtenB D))
  (sSeq (sExpr (mMeth D.cP "close" D.close_S (mLoc 2) (aCons (mLoc 1) (aCons (mConst (.int 0)) aNil))))
  (sSeq (sRet (mTup (aCons (mLoc 2) (aCons (mLoc 3) aNil))))
  sNil))))) ρ H K := rfl
theorem law_writtenS_inv {cM cP : Addr} {args : List AV} {H : AHeap} {P : AV → AHeap → Prop} (h : law_writtenS cM cP args H P) : ∃ s, args = [.ref s] ∧ law_writtenS cM cP [.ref s] H P := by
  cases args with
  | nil => exact h.elim
  | cons a0 l0 =>
    cases a0 with
    | none => exact h.elim
    | bool _ => exact h.elim
    | int _ => exact h.elim
    | bytes _ => exact h.elim
    | ref s =>
      cases l0 with
      | cons _ _ => exact h.elim
      | nil => exact ⟨_, rfl, h⟩
theorem law_written_ok (D : Ad) (hD0 : D.pageInitS = pageInitS D.cM D.cP) (hD1 : D.open_S = openS D.cM D.cP) (hD2 : D.close_S = closeS D.cM D.cP) (hD3 : D.specialS = specialS D.cM D.cP) : ∀ args H P, law_writtenS D.cM D.cP args H P → args.length = 1 ∧ m_law_written D (startLoc args 13) H (fun fl _ H' => match fl with | .ret v => P v H' | .next => P .none H' | _ => False) := by
  intro args H P h
  obtain ⟨s, rfl, h⟩ := law_writtenS_inv h
  · unfold law_writtenS at h
    (try dsimp only at h)
    obtain ⟨as, ts, hs, T, hlen, hg, hP⟩ := h
    have hal := T.length
    refine ⟨rfl, ?_⟩
    rw [law_written_run]
    refine r_seq ?_
    try simp (disch := omega) only [k_next, sAssign, tt5, mConst, e_mTup, e_mList, aCons, aNil, startLoc, List.map_cons, List.map_nil, List.replicate, List.cons_append, List.nil_append]
    rw [hD0]
    refine new_page fun H1 A K1 p1 fr1 => ?_
    refine ⟨by show 0 ≤ 1000; decide, nw fun l3 Ha hl3 fa Ka ga => ?_⟩
    refine ⟨by show 0 ≤ 1000; decide, nw fun l4 Hb hl4 fb Kb gb => ?_⟩
    refine ⟨by show 2 ≤ 1000; decide, nw fun l5 Hc hl5 fc Kc gc => ?_⟩
    refine ⟨by show 0 ≤ 1000; decide, nw fun x Hd hx fd Kd gd => ?_⟩
    refine ⟨by show 0 ≤ 1000; decide, nw fun y He hy fe Ke ge => ?_⟩
    refine ⟨by show 2 ≤ 1000; decide, nw fun l6 Hf hl6 ff Kf gf => ?_⟩
    refine ⟨by show 5 ≤ 1000; decide, nw fun z1 Hg hz1 fg Kg gg => ?_⟩
    rw [e_seqL (n := 5) (.inr fg) rfl]
    try simp (disch := omega) only [tName, te_c, te_n, List.set_cons_zero, List.set_cons_succ]
    have p2 := p1.kp0 ((((((Ka.trans Kb).trans Kc).trans Kd).trans Ke).trans Kf).trans Kg)
    have s2 := (((((((K1.trans Ka).trans Kb).trans Kc).trans Kd).trans Ke).trans Kf).trans Kg) _ _ hs (by simp)
    have T2 := T.kp ((((((((K1.trans Ka).trans Kb).trans Kc).trans Kd).trans Ke).trans Kf).trans Kg)) (by simp)
    have f3 := ((((((Kb).trans Kc).trans Kd).trans Ke).trans Kf).trans Kg) _ _ fa (by simp)
    have f4 := ((((Kc.trans Kd).trans Ke).trans Kf).trans Kg) _ _ fb (by simp)
    have f5 := (((Kd.trans Ke).trans Kf).trans Kg) _ _ fc (by simp)
    have fx := ((Ke.trans Kf).trans Kg) _ _ fd (by simp)
    have fy := (Kf.trans Kg) _ _ fe (by simp)
    have f6 := Kg _ _ ff (by simp)
    have n34 : l3 ≠ l4 := fun e => by rw [← e, fa] at hl4; cases hl4
    have outP : ∀ {z : Addr}, H1 z = none → z ∉ A.dp :: LX A [] [] := fun hz m => by
      rcases List.mem_cons.mp m with rfl | m
      · rw [p1.dp] at hz; cases hz
      · obtain ⟨ws, e⟩ := p1.lst _ m; rw [hz] at e; cases e
    have outS : ∀ {z : Addr} {o : AObj}, H z = some o → z ∉ A.dp :: LX A [] [] ∧ z ≠ l3 ∧ z ≠ l4 := fun e => by
      refine ⟨fun m => (by rw [fr1 _ m] at e; cases e), fun q => ?_, fun q => ?_⟩
      · have := K1 _ _ e (by simp); rw [q, hl3] at this; cases this
      · have := (K1.trans Ka) _ _ e (by simp); rw [q, hl4] at this; cases this
    have aft : ∀ {z : Addr}, Hb z = none → z ≠ l3 ∧ z ≠ l4 := fun hz => ⟨fun q => (by rw [q, Kb _ _ fa (by simp)] at hz; cases hz), fun q => (by rw [q, fb] at hz; cases hz)⟩
    have g1 : ∀ z, Hb z = none → H1 z = none := fun z q => ga _ (gb _ q)
    -- the place of lf is held by the steps' list for now
    have I0 : WAt D.cM D.cP Hg A [] [] s l3 l4 l5 l6 x y as [] [] ts W0 := {
      pa := p2
      hf := s2
      tf := T2
      h3 := f3
      t3 := .nil
      h4 := f4
      t4 := .nil
      h5 := f5
      h6 := f6
      hx := fx
      hy := fy
      n := fun a ha => by
        simp only [List.mem_cons, List.not_mem_nil, or_false] at ha
        rcases ha with rfl | rfl | rfl | rfl | rfl | rfl | rfl
        · exact (outS hs).1
        · exact outP hl3
        · exact outP (ga _ hl4)
        · exact outP (g1 _ hl5)
        · exact outP (g1 _ (gc _ (gd _ (ge _ hl6))))
        · exact outP (g1 _ (gc _ hx))
        · exact outP (g1 _ (gc _ (gd _ hy)))
      n34 := n34
      n' := fun a ha => by
        simp only [List.mem_cons, List.not_mem_nil, or_false] at ha
        rcases ha with rfl | rfl | rfl | rfl | rfl
        · exact (outS hs).2
        · exact aft hl5
        · exact aft (gc _ (gd _ (ge _ hl6)))
        · exact aft (gc _ hx)
        · exact aft (gc _ (gd _ hy)) }
    have hok0 : PgOk S0 := by unfold PgOk S0 LIM; simp
    refine r_seq ?_
    try simp (disch := omega) only [k_next, l_z, l_s, e_meth, sAssign, tName, List.set_cons_zero, List.set_cons_succ]
    rw [e_methH I0.pa.pg I0.pa.dp rfl]
    try simp (disch := omega) only [mConst, aCons, aNil]
    rw [hD1]
    refine ⟨A, [], [], S0, rfl, I0.pa, ⟨hok0, by decide⟩, fun H2 raa2 rad2 p3 K3 sb3 gs3 => ?_⟩
    have I1 := I0.page p3 K3 sb3
    dsimp only at p3 I1 ⊢
    have eo : openP S0 0 = S0 := rfl
    rw [eo] at I1 p3 ⊢
    have I1 : WAt D.cM D.cP H2 A raa2 rad2 s l3 l4 l5 l6 x y as [] [] ts W0 := I1
    refine r_seq ?_
    unfold sFor
    try simp (disch := omega) only [l_z, mConst, mBin, e_mTup, e_mList, aCons, aNil]
    refine ⟨by show 3 ≤ 1000; decide, nw fun tp Hh htp fh Kh gh => ?_⟩
    refine ⟨by show 1 ≤ 1000; decide, nw fun z2 Hi hz2 fi Ki gi => ?_⟩
    refine h_mulL fi (by decide) (by decide) (by show 1 ≤ 1000; decide) (nw fun z3 Hj hz3 fj Kj gj => ?_)
    have Kj3 := (Kh.trans Ki).trans Kj
    have I2 := I1.kp0 Kj3
    refine h_addL I2.hf fj (by simp [LIM]; omega) (nw fun lf Hk hlf fk Kk gk => ?_)
    have ftp := ((Ki.trans Kj).trans Kk) _ _ fh (by simp)
    have I3 := I2.kp0 Kk
    have efk : as.map AV.ref ++ (List.replicate (4 : Int).toNat [AV.ref tp]).flatten = (as ++ List.replicate 4 tp).map AV.ref := by
      rw [List.map_append]; rfl
    rw [efk] at fk
    have T4 : Tab tripO Hk (as ++ List.replicate 4 tp) (ts ++ List.replicate 4 (Trip.mk 2 0 0)) := I3.tf.append (.cons ftp (.cons ftp (.cons ftp (.cons ftp .nil))))
    have qf := I2.fresh hlf
    have I4 : WAt D.cM D.cP Hk A raa2 rad2 lf l3 l4 l5 l6 x y (as ++ List.replicate 4 tp) [] [] (ts ++ List.replicate 4 (Trip.mk 2 0 0)) W0 := { I3 with
      hf := fk
      tf := T4
      n := fun a ha => by
        rcases List.mem_cons.mp ha with rfl | ha
        · exact qf.1
        · exact I3.n a (.tail _ ha)
      n' := fun a ha => by
        rcases List.mem_cons.mp ha with rfl | ha
        · exact qf.2
        · exact I3.n' a (.tail _ ha) }
    refine ⟨_, fk, ?_⟩
    refine written_loop hD1 hD2 hD3 _ _ _ _ _ [] [] _ _ _ _ _ _ _ _ _ _ _ _ _ _ _ _ _ rfl rfl rfl I4 hg fun H5 raa5 rad5 l5' l6' x' y' rws kps x7 x8 x9 x10 x11 x12 x13 I5 => ?_
    have hfin : PgOk (wfin ts).S := by
      have : ∀ (us : List Trip) (W : WSt), wgood W us → PgOk (us.foldl wstep W).S := by
        intro us
        induction us with
        | nil => intro W h; exact h
        | cons u us ih => intro W h; exact ih _ h.2
      exact this _ _ hg
    have I5 : WAt D.cM D.cP H5 A raa5 rad5 lf l3 l4 l5' l6' x' y' (as ++ List.replicate 4 tp) rws kps (ts ++ List.replicate 4 (Trip.mk 2 0 0)) (wfin ts) := I5
    rw [k_next]
    refine r_seq ?_
    try simp (disch := omega) only [k_next, l_z, l_s, e_meth, sExpr]
    rw [e_methH I5.pa.pg I5.pa.dp rfl]
    try simp (disch := omega) only [l_z, l_s, mConst, aCons, aNil]
    rw [hD2]
    refine ⟨A, raa5, rad5, (wfin ts).S, rfl, I5.pa, ⟨hfin, fun q => absurd q (by decide)⟩, fun H6 raa6 rad6 p6 K6 s6 g6 => ?_⟩
    have I6 := I5.page p6 K6 s6
    dsimp only at p6 I6 ⊢
    refine r_seq ?_
    try simp (disch := omega) only [k_ret, l_z, l_s, sRet, e_mTup, aCons, aNil]
    refine ⟨by show 2 ≤ 1000; decide, nw fun z9 H7 hz9 f7 K7 g7 => ?_⟩
    have I7 := I6.kp0 K7
    exact hP H7 z9 A raa6 rad6 l3 rws f7 I7.pa I7.h3 I7.t3
end
section
set_option genSizeOf false
set_option genSizeOfSpec false
set_option maxRecDepth 100000
set_option autoImplicit false
/-! plain law: what the page writer leaves, and what the machine of the law makes of it -/
inductive Item where
  | row (a : Nat) (size st : Int) (ag : Bool)
  | push
  | junk (cs : List Cmd)
noncomputable def sortI (size st : Int) (ag : Bool) : Nat := if ag = true then (if st = 4 then 4 else 9) else roomS size - 1 + (if st = 4 then 5 else if st = 5 then 10 else 0)
noncomputable def cmdsI : Item → List Cmd
  | .row a size st ag => [.mv a (sortI size st ag) size]
  | .push => [.push]
  | .junk cs => cs
/-- top first -/
noncomputable def cmdsT : List Item → List Cmd
  | [] => []
  | it :: L => cmdsT L ++ cmdsI it
noncomputable def octT (L : List Item) : List Int := encs (cmdsT L)
noncomputable def lenT (L : List Item) : Nat := (octT L).length
noncomputable def rowsT (a : Nat) : List Item → List Row
  | [] => []
  | .row b size st _ :: L => if b = a then ⟨size, lenT L, st⟩ :: rowsT a L else rowsT a L
  | .push :: L => rowsT a L
  | .junk _ :: L => rowsT a L
noncomputable def src : List Item → Nat → Int → Option Int
  | [], _, _ => none
  | .row b s st _ :: L, a, u => if b = a then (if st = u then some s else if st = 0 ∨ (u = 4 ∧ st = 1) ∨ (u = 5 ∧ st = 2) then none else src L a u) else src L a u
  | .push :: L, a, u => src L a u
  | .junk _ :: L, a, u => src L a u
theorem encs_append (a b : List Cmd) : encs (a ++ b) = encs a ++ encs b := by unfold encs; simp
theorem octT_cons (it : Item) (L : List Item) : octT (it :: L) = octT L ++ encs (cmdsI it) := by unfold octT; rw [cmdsT, encs_append]
theorem lenT_cons (it : Item) (L : List Item) : lenT (it :: L) = lenT L + (encs (cmdsI it)).length := by unfold lenT; rw [octT_cons, List.length_append]
theorem cmdsT_append (A B : List Item) : cmdsT (A ++ B) = cmdsT B ++ cmdsT A := by
  induction A with
  | nil => simp [cmdsT]
  | cons it A ih => simp [cmdsT, ih]
theorem encs_pos {cs : List Cmd} (h : cs ≠ []) : 0 < (encs cs).length := by
  cases cs with
  | nil => exact absurd rfl h
  | cons c cs =>
    have : encs (c :: cs) = encC c ++ encs cs := by simp [encs]
    rw [this, List.length_append]
    have := List.length_pos_iff.mpr (encC_ne c)
    omega
theorem encs_len (cs : List Cmd) : cs.length ≤ (encs cs).length := by
  induction cs with
  | nil => simp
  | cons c cs ih =>
    have : encs (c :: cs) = encC c ++ encs cs := by simp [encs]
    rw [this, List.length_append]
    have := List.length_pos_iff.mpr (encC_ne c)
    simp; omega
/-- the machine without its registers -/
structure TM where
  h : Int
  v : Int
  kept : List (Int × Int)
  outs : List Out
  ta : Int
  td : Int
  deep : Int
noncomputable def tmv (t : TM) (a : Nat) (s took : Int) : TM := { t with h := if a = 0 then t.h + s else t.h, v := if a = 0 then t.v else t.v + s, ta := if a = 0 then t.ta + took else t.ta, td := if a = 0 then t.td else t.td + took }
noncomputable def tstep (t : TM) : Cmd → Option TM
  | .push => some { t with kept := t.kept ++ [(t.h, t.v)] }
  | .pop => match t.kept.getLast? with
    | none => none
    | some f => some { t with h := f.1, v := f.2, kept := t.kept.dropLast, deep := if (t.kept.length : Int) > t.deep then (t.kept.length : Int) else t.deep }
  | .spec k => some { t with outs := t.outs ++ [⟨k, t.h, t.v, t.ta, t.td⟩], ta := 0, td := 0 }
  | .mv a sort s => some (tmv t a s (1 + tblP sort))
noncomputable def trun (t : TM) : List Cmd → Option TM
  | [] => some t
  | c :: cs => match tstep t c with
    | none => none
    | some t' => trun t' cs
theorem trun_append (cs ds : List Cmd) : ∀ t, trun t (cs ++ ds) = (trun t cs).bind fun t' => trun t' ds := by
  induction cs with
  | nil => intro t; rfl
  | cons c cs ih =>
    intro t
    simp only [List.cons_append, trun]
    cases tstep t c with
    | none => rfl
    | some t' => exact ih t'
theorem crun_append (cs ds : List Cmd) : ∀ m, crun m (cs ++ ds) = (crun m cs).bind fun t' => crun t' ds := by
  induction cs with
  | nil => intro t; rfl
  | cons c cs ih =>
    intro t
    simp only [List.cons_append, crun]
    cases cstep t c with
    | none => rfl
    | some t' => exact ih t'
theorem trun_one (t : TM) (c : Cmd) : trun t [c] = tstep t c := by
  unfold trun
  cases tstep t c <;> rfl
theorem crun_one (m : Mac) (c : Cmd) : crun m [c] = cstep m c := by
  unfold crun
  cases cstep m c <;> rfl
structure Rel (m : Mac) (t : TM) : Prop where
  len : m.cur.length = 6
  h : m.cur.getD 0 0 = t.h
  v : m.cur.getD 1 0 = t.v
  kept : t.kept = m.kept.map fun f => (f.getD 0 0, f.getD 1 0)
  klen : ∀ f ∈ m.kept, f.length = 6
  outs : m.outs = t.outs
  ta : m.ta = t.ta
  td : m.td = t.td
  deep : m.deep = if (m.kept.length : Int) > t.deep then (m.kept.length : Int) else t.deep
noncomputable def regU (a : Nat) (u : Int) : Nat := 2 + 2 * a + (if u = 4 then 0 else 1)
noncomputable def Meets (L : List Int) (s : Nat → Int → Option Int) : Prop := ∀ a u x, a < 2 → u = 4 ∨ u = 5 → s a u = some x → L.getD (regU a u) 0 = x
noncomputable def JOk (s : Nat → Int → Option Int) (cs : List Cmd) : Prop := cs ≠ [] ∧ ∀ m t t', Rel m t → Meets m.cur s → trun t cs = some t' → ∃ m', crun m cs = some m' ∧ Rel m' t' ∧ m'.cur = m.cur ∧ m'.kept = m.kept ∧ m'.lp = false
noncomputable def SLe (s s' : Nat → Int → Option Int) : Prop := ∀ a u x, u = 4 ∨ u = 5 → s a u = some x → s' a u = some x
theorem JOk.mono {s s' : Nat → Int → Option Int} {cs : List Cmd} (h : SLe s s') (j : JOk s cs) : JOk s' cs :=
  ⟨j.1, fun m t t' R M r => j.2 m t t' R (fun a u x ha hu e => M a u x ha hu (h a u x hu e)) r⟩
noncomputable def VI (s : Nat → Int → Option Int) : Item → Prop
  | .row a size st ag => a < 2 ∧ size.natAbs < 2147483648 ∧ (0 ≤ st ∧ st ≤ 5) ∧ (ag = true → (st = 4 ∨ st = 5) ∧ s a st = some size)
  | .push => True
  | .junk cs => JOk s cs
noncomputable def Valid : List Item → Prop
  | [] => True
  | it :: L => VI (src L) it ∧ Valid L
theorem sort_facts {size st : Int} (ag : Bool) (h : 0 ≤ st ∧ st ≤ 5) (hag : ag = true → st = 4 ∨ st = 5) : sortI size st ag < 14 ∧ (ag = true → tblP (sortI size st ag) = 0) ∧ (ag = false → tblP (sortI size st ag) = roomS size) ∧ (3 < sortI size st ag ↔ (st = 4 ∨ st = 5)) ∧ (st = 4 → ¬ 8 < sortI size st ag) ∧ (st = 5 → 8 < sortI size st ag) := by
  have hr := roomS_pos size
  have hr' : roomS size = 1 ∨ roomS size = 2 ∨ roomS size = 3 ∨ roomS size = 4 := by omega
  unfold sortI tblP
  cases ag with
  | true =>
    have := hag rfl
    rcases this with rfl | rfl <;> simp
  | false =>
    by_cases h4 : st = 4
    · subst h4; rcases hr' with e | e | e | e <;> simp [e]
    · by_cases h5 : st = 5
      · subst h5; rcases hr' with e | e | e | e <;> simp [e]
      · rcases hr' with e | e | e | e <;> simp [h4, h5, e]
theorem getD_set (X : List Int) {i : Nat} (v : Int) (j : Nat) (hi : i < X.length) : (X.set i v).getD j 0 = if i = j then v else X.getD j 0 := by
  simp only [List.getD_eq_getElem?_getD]
  rw [List.getElem?_set]
  split
  · rfl
  · rfl
theorem getD_moveL {L : List Int} (hl : L.length = 6) {a sort : Nat} (ha : a < 2) (s : Int) (j : Nat) : (moveL L a sort s).getD j 0 = if j = a then L.getD a 0 + s else if 3 < sort ∧ j = regOf a sort then s else L.getD j 0 := by
  have hq : 2 ≤ regOf a sort ∧ regOf a sort < 6 := by unfold regOf; split <;> omega
  unfold moveL
  generalize regOf a sort = q at *
  dsimp only
  by_cases h3 : 3 < sort
  · rw [if_pos h3, getD_set _ _ _ (by rw [List.length_set]; omega), getD_set _ _ _ (by omega), getD_set _ _ _ (by omega), if_neg (by omega : ¬ q = a)]
    by_cases e : a = j
    · subst e; simp
    · rw [if_neg e, if_neg (show ¬ j = a from fun q => e q.symm)]
      by_cases e2 : q = j
      · rw [if_pos e2, if_pos ⟨h3, e2.symm⟩]
      · rw [if_neg e2, if_neg (fun h => e2 h.2.symm)]
  · rw [if_neg h3, getD_set _ _ _ (by omega)]
    by_cases e : a = j
    · subst e; simp
    · rw [if_neg e, if_neg (show ¬ j = a from fun q => e q.symm), if_neg (fun h => h3 h.1)]
/-- one row's command -/
theorem row_step {m : Mac} {t : TM} {s : Nat → Int → Option Int} (R : Rel m t) (M : Meets m.cur s) {a : Nat} {size st : Int} {ag : Bool} (h : VI s (.row a size st ag)) :
    ∃ m', cstep m (.mv a (sortI size st ag) size) = some m' ∧ Rel m' (tmv t a size (1 + tblP (sortI size st ag))) ∧ m'.kept = m.kept ∧ m'.lp = false ∧
      ∀ b u x, b < 2 → u = 4 ∨ u = 5 → (if a = b ∧ st = u then x = size else m.cur.getD (regU b u) 0 = x) → m'.cur.getD (regU b u) 0 = x := by
  obtain ⟨ha, hz, hst, hag⟩ := h
  obtain ⟨f1, f2, f3, f4, f5, f6⟩ := sort_facts (size := size) ag hst fun e => (hag e).1
  have hreg : st = 4 ∨ st = 5 → regOf a (sortI size st ag) = regU a st := by
    intro h
    unfold regOf regU
    rcases h with rfl | rfl
    · rw [if_neg (f5 rfl), if_pos rfl]
    · rw [if_pos (f6 rfl), if_neg (by decide)]
  have hok : mvOk m.cur a (sortI size st ag) size = true := by
    unfold mvOk
    rw [Bool.and_eq_true, decide_eq_true_eq]
    refine ⟨⟨ha, f1⟩, ?_⟩
    cases ag with
    | true =>
      rw [if_pos (f2 rfl), decide_eq_true_eq]
      obtain ⟨q1, q2⟩ := hag rfl
      rw [hreg q1]
      exact M a st size ha q1 q2
    | false =>
      have hr := roomS_pos size
      rw [f3 rfl, if_neg (by omega), decide_eq_true_eq]
      exact ⟨rfl, hz⟩
  have e : cstep m (.mv a (sortI size st ag) size) = some { m with cur := moveL m.cur a (sortI size st ag) size, ta := if a = 0 then m.ta + (1 + tblP (sortI size st ag)) else m.ta, td := if a = 0 then m.td else m.td + (1 + tblP (sortI size st ag)), lp := false } := by
    simp only [cstep]; rw [if_pos hok]
  refine ⟨_, e, ?_, rfl, rfl, ?_⟩
  · obtain ⟨r1, r2, r3, r4, r5, r6, r7, r8, r9⟩ := R
    have hge : 2 ≤ regOf a (sortI size st ag) := by unfold regOf; omega
    refine ⟨by dsimp only; rw [moveL_length]; exact r1, ?_, ?_, r4, r5, r6, ?_, ?_, r9⟩
    · dsimp only [tmv]
      rw [getD_moveL r1 ha]
      by_cases q : a = 0
      · subst q; rw [if_pos rfl, if_pos rfl, r2]
      · rw [if_neg (fun e => q e.symm), if_neg (fun e => by omega), if_neg q, r2]
    · dsimp only [tmv]
      rw [getD_moveL r1 ha]
      by_cases q : a = 0
      · subst q; rw [if_neg (by decide), if_neg (fun e => by omega), if_pos rfl, r3]
      · have : a = 1 := by omega
        subst this; rw [if_pos rfl, if_neg (by decide), r3]
    · dsimp only [tmv]
      rw [r7]
    · dsimp only [tmv]
      rw [r8]
  · intro b u x hb hu hx
    dsimp only
    rw [getD_moveL R.len ha]
    have h1 : ¬ regU b u = a := by unfold regU; omega
    rw [if_neg h1]
    by_cases e : a = b ∧ st = u
    · obtain ⟨rfl, rfl⟩ := e
      rw [if_pos ⟨rfl, rfl⟩] at hx
      rw [if_pos ⟨f4.mpr hu, (hreg hu).symm⟩]
      exact hx.symm
    · rw [if_neg e] at hx
      rw [if_neg]
      · exact hx
      · rintro ⟨q1, q2⟩
        have hst' := f4.mp q1
        rw [hreg hst'] at q2
        refine e ?_
        unfold regU at q2
        rcases hst' with rfl | rfl <;> rcases hu with rfl | rfl <;> simp at q2 ⊢ <;> omega

/-- rows and pushes, from any state that meets what stands below -/
theorem run_inner (B : List Item) : ∀ (I : List Item) (m : Mac) (t t' : TM), Valid (I ++ B) → Rel m t → Meets m.cur (src B) → trun t (cmdsT I) = some t' →
    ∃ m', crun m (cmdsT I) = some m' ∧ Rel m' t' ∧ Meets m'.cur (src (I ++ B)) ∧ ((∀ it ∈ I, it ≠ .push) → m'.kept = m.kept ∧ (I ≠ [] → m'.lp = false)) := by
  intro I
  induction I with
  | nil =>
    intro m t t' hv R M hr
    injection hr with hr; subst hr
    exact ⟨m, rfl, R, M, fun _ => ⟨rfl, fun h => absurd rfl h⟩⟩
  | cons it I ih =>
    intro m t t' hv R M hr
    rw [cmdsT, trun_append] at hr
    cases e : trun t (cmdsT I) with
    | none => rw [e] at hr; cases hr
    | some t1 =>
      rw [e] at hr
      obtain ⟨m1, c1, R1, M1, k1⟩ := ih m t t1 hv.2 R M e
      have hi : VI (src (I ++ B)) it := hv.1
      rw [cmdsT, crun_append, c1]
      cases it with
      | push =>
        change trun t1 [.push] = some t' at hr
        rw [trun_one] at hr
        injection hr with hr; subst hr
        refine ⟨_, rfl, ?_, ?_, fun h => absurd rfl (h .push (.head _))⟩
        · obtain ⟨r1, r2, r3, r4, r5, r6, r7, r8, r9⟩ := R1
          refine ⟨r1, r2, r3, ?_, ?_, r6, r7, r8, ?_⟩
          · show t1.kept ++ [(t1.h, t1.v)] = List.map _ (m1.kept ++ [m1.cur])
            rw [List.map_append, r4, List.map_cons, List.map_nil, r2, r3]
          · intro f hf
            rcases List.mem_append.mp hf with q | q
            · exact r5 f q
            · simp at q; rw [q]; exact r1
          · show (if _ then _ else _) = if _ then _ else _
            rw [r9]
            simp only [List.length_append, List.length_cons, List.length_nil, Nat.zero_add]
            push_cast
            repeat' split
            all_goals omega
        · exact M1
      | junk cs =>
        obtain ⟨m2, c2, R2, e1, e2, e3⟩ := hi.2 m1 t1 t' R1 M1 hr
        refine ⟨m2, c2, R2, by rw [e1]; exact M1, fun h => ⟨?_, fun _ => e3⟩⟩
        rw [e2]
        exact (k1 fun z hz => h z (.tail _ hz)).1
      | row a size st ag =>
        change trun t1 [.mv a (sortI size st ag) size] = some t' at hr
        rw [trun_one] at hr
        injection hr with hr
        obtain ⟨m2, c2, R2, e2, e3, g⟩ := row_step R1 M1 hi
        rw [hr] at R2
        refine ⟨m2, ?_, R2, ?_, fun h => ⟨?_, fun _ => e3⟩⟩
        · show crun m1 [.mv a (sortI size st ag) size] = some m2
          rw [crun_one]; exact c2
        · intro b u x hb hu hx
          refine g b u x hb hu ?_
          simp only [List.cons_append, src] at hx
          by_cases q : a = b
          · subst q
            rw [if_pos rfl] at hx
            by_cases q2 : st = u
            · rw [if_pos q2] at hx
              injection hx with hx
              rw [if_pos ⟨rfl, q2⟩]; exact hx.symm
            · rw [if_neg q2] at hx
              rw [if_neg (fun h => q2 h.2)]
              split at hx
              · cases hx
              · exact M1 _ u x hb hu hx
          · rw [if_neg q] at hx
            rw [if_neg (fun h => q h.1)]
            exact M1 b u x hb hu hx
        · rw [e2]
          exact (k1 fun z hz => h z (.tail _ hz)).1
/-- a box closed -/
theorem JOk_box {I B : List Item} (hI : I ≠ []) (hp : ∀ it ∈ I, it ≠ .push) (hv : Valid (I ++ B)) : JOk (src B) (.push :: (cmdsT I ++ [.pop])) := by
  refine ⟨by simp, fun m t t' R M hr => ?_⟩
  have hr : trun { t with kept := t.kept ++ [(t.h, t.v)] } (cmdsT I ++ [.pop]) = some t' := hr
  rw [trun_append] at hr
  cases e : trun { t with kept := t.kept ++ [(t.h, t.v)] } (cmdsT I) with
  | none => rw [e] at hr; cases hr
  | some t1 =>
    rw [e] at hr
    change trun t1 [.pop] = some t' at hr
    rw [trun_one] at hr
    obtain ⟨r1, r2, r3, r4, r5, r6, r7, r8, r9⟩ := R
    have Rp : Rel { m with kept := m.kept ++ [m.cur], deep := if ((m.kept.length + 1 : Nat) : Int) > m.deep then ((m.kept.length + 1 : Nat) : Int) else m.deep, lp := true } { t with kept := t.kept ++ [(t.h, t.v)] } := by
      refine ⟨r1, r2, r3, ?_, ?_, r6, r7, r8, ?_⟩
      · show t.kept ++ [(t.h, t.v)] = List.map _ (m.kept ++ [m.cur])
        rw [List.map_append, r4, List.map_cons, List.map_nil, r2, r3]
      · intro f hf
        rcases List.mem_append.mp hf with q | q
        · exact r5 f q
        · simp at q; rw [q]; exact r1
      · show (if _ then _ else _) = if _ then _ else _
        rw [r9]
        simp only [List.length_append, List.length_cons, List.length_nil, Nat.zero_add]
        push_cast
        repeat' split
        all_goals omega
    obtain ⟨m1, c1, R1, M1, k1⟩ := run_inner B I _ _ t1 hv Rp M e
    obtain ⟨k2, k3⟩ := k1 hp
    have k3 := k3 hI
    have k2 : m1.kept = m.kept ++ [m.cur] := k2
    obtain ⟨q1, q2, q3, q4, q5, q6, q7, q8, q9⟩ := R1
    have c2 : cstep m1 .pop = some { m1 with cur := m.cur, kept := m.kept, lp := false } := by
      simp only [cstep]
      rw [k3, if_neg (by decide), k2]
      simp
    refine ⟨{ m1 with cur := m.cur, kept := m.kept, lp := false }, ?_, ?_, ?_, ?_, ?_⟩
    · show crun _ (cmdsT I ++ [.pop]) = _
      rw [crun_append, c1]
      show crun m1 [.pop] = _
      rw [crun_one, c2]
    · simp only [tstep] at hr
      rw [q4, k2, List.map_append, List.map_cons, List.map_nil, List.getLast?_append] at hr
      simp only [List.getLast?_singleton, Option.some_or] at hr
      injection hr with hr
      subst hr
      refine ⟨r1, rfl, rfl, ?_, r5, q6, q7, q8, ?_⟩
      · simp
      · dsimp only
        rw [q9, k2]
        simp only [List.length_append, List.length_cons, List.length_nil, List.length_map]
        repeat' split
        all_goals omega
    · rfl
    · rfl
    · rfl
end
section
set_option genSizeOf false
set_option genSizeOfSpec false
set_option maxRecDepth 100000
set_option autoImplicit false
/-- how a row's state may go on -/
structure StLe (st st' : Int) : Prop where
  bd : 0 ≤ st' ∧ st' ≤ 5
  e4 : st = 4 → st' = 4
  e5 : st = 5 → st' = 5
  e2 : st = 2 ∨ st = 3 → st' = 2 ∨ st' = 3 ∨ st' = 5
  e1 : st = 1 ∨ st = 3 → st' = 1 ∨ st' = 3 ∨ st' = 4
inductive ItLe : Item → Item → Prop
  | refl (it : Item) : ItLe it it
  | row (a : Nat) (s st st' : Int) : StLe st st' → ItLe (.row a s st false) (.row a s st' false)
inductive LLe : List Item → List Item → Prop
  | nil : LLe [] []
  | cons {it it' : Item} {L L' : List Item} : ItLe it it' → LLe L L' → LLe (it :: L) (it' :: L')
theorem LLe.refl : ∀ L, LLe L L
  | [] => .nil
  | it :: L => .cons (.refl it) (LLe.refl L)
theorem tblP_sort {size st st' : Int} (h : StLe st st') (h0 : 0 ≤ st ∧ st ≤ 5) : tblP (sortI size st' false) = tblP (sortI size st false) := by
  rw [(sort_facts false h.bd (by simp)).2.2.1 rfl, (sort_facts false h0 (by simp)).2.2.1 rfl]
theorem six {st : Int} (h : 0 ≤ st ∧ st ≤ 5) : st = 0 ∨ st = 1 ∨ st = 2 ∨ st = 3 ∨ st = 4 ∨ st = 5 := by
  obtain ⟨n, rfl⟩ : ∃ n : Nat, st = n := ⟨st.toNat, by omega⟩
  match n, h.2 with
  | 0, _ => exact .inl rfl
  | 1, _ => exact .inr (.inl rfl)
  | 2, _ => exact .inr (.inr (.inl rfl))
  | 3, _ => exact .inr (.inr (.inr (.inl rfl)))
  | 4, _ => exact .inr (.inr (.inr (.inr (.inl rfl))))
  | 5, _ => exact .inr (.inr (.inr (.inr (.inr rfl))))
  | n + 6, h => omega
/-- a row that lets a walk pass goes on to do so -/
theorem stle_pass {st st' u : Int} (h : StLe st st') (h0 : 0 ≤ st ∧ st ≤ 5) (hu : u = 4 ∨ u = 5) (q2 : ¬ st = u) (q3 : ¬ (st = 0 ∨ (u = 4 ∧ st = 1) ∨ (u = 5 ∧ st = 2))) : ¬ st' = u ∧ ¬ (st' = 0 ∨ (u = 4 ∧ st' = 1) ∨ (u = 5 ∧ st' = 2)) := by
  obtain ⟨_, e4, e5, e2, e1⟩ := h
  have z4 : st' = 2 ∨ st' = 3 ∨ st' = 5 → ¬ st' = 4 ∧ ¬ (st' = 0 ∨ ((4 : Int) = 4 ∧ st' = 1) ∨ ((4 : Int) = 5 ∧ st' = 2)) := fun r => by
    rcases r with rfl | rfl | rfl <;> exact ⟨by decide, by decide⟩
  have z5 : st' = 1 ∨ st' = 3 ∨ st' = 4 → ¬ st' = 5 ∧ ¬ (st' = 0 ∨ ((5 : Int) = 4 ∧ st' = 1) ∨ ((5 : Int) = 5 ∧ st' = 2)) := fun r => by
    rcases r with rfl | rfl | rfl <;> exact ⟨by decide, by decide⟩
  rcases hu with rfl | rfl <;> rcases six h0 with rfl | rfl | rfl | rfl | rfl | rfl
  · exact absurd (.inl rfl) q3
  · exact absurd (.inr (.inl ⟨rfl, rfl⟩)) q3
  · exact z4 (e2 (.inl rfl))
  · exact z4 (e2 (.inr rfl))
  · exact absurd rfl q2
  · exact z4 (.inr (.inr (e5 rfl)))
  · exact absurd (.inl rfl) q3
  · exact z5 (e1 (.inl rfl))
  · exact absurd (.inr (.inr ⟨rfl, rfl⟩)) q3
  · exact z5 (e1 (.inr rfl))
  · exact z5 (.inr (.inr (e4 rfl)))
  · exact absurd rfl q2
/-- what is alike -/
theorem LLe.facts {L L' : List Item} (h : LLe L L') (hv : Valid L) : lenT L' = lenT L ∧ (∀ t, trun t (cmdsT L') = trun t (cmdsT L)) ∧ SLe (src L) (src L') ∧ Valid L' := by
  induction h with
  | nil => exact ⟨rfl, fun _ => rfl, fun _ _ _ _ h => h, trivial⟩
  | @cons it it' L L' hi hl ih =>
    obtain ⟨i1, i2, i3, i4⟩ := ih hv.2
    have hvi := hv.1
    cases hi with
    | refl it =>
      refine ⟨by rw [lenT_cons, lenT_cons, i1], fun t => by rw [cmdsT, cmdsT, trun_append, trun_append, i2], ?_, ?_, i4⟩
      · intro a u x hu hx
        cases it with
        | push => exact i3 a u x hu hx
        | junk cs => exact i3 a u x hu hx
        | row b s st ag =>
          simp only [src] at hx ⊢
          split at hx
          · rename_i q
            rw [if_pos q]
            split at hx
            · rename_i q2; rw [if_pos q2]; exact hx
            · rename_i q2
              rw [if_neg q2]
              split at hx
              · cases hx
              · rename_i q3; rw [if_neg q3]; exact i3 a u x hu hx
          · rename_i q; rw [if_neg q]; exact i3 a u x hu hx
      · cases it with
        | push => trivial
        | junk cs => exact JOk.mono i3 hvi
        | row b s st ag =>
          obtain ⟨h1, h2, h3, h4⟩ := hvi
          exact ⟨h1, h2, h3, fun e => ⟨(h4 e).1, i3 b st s (h4 e).1 (h4 e).2⟩⟩
    | row a s st st' hst =>
      obtain ⟨h1, h2, h3, h4⟩ := hvi
      have et := tblP_sort (size := s) hst h3
      refine ⟨?_, fun t => ?_, ?_, ⟨h1, h2, hst.bd, fun e => by cases e⟩, i4⟩
      · rw [lenT_cons, lenT_cons, i1]
        simp only [cmdsI, encs, List.flatMap_cons, List.flatMap_nil, List.append_nil, encC, List.length_cons, bytesN_length, et]
      · rw [cmdsT, cmdsT, trun_append, trun_append, i2]
        congr 1
        funext t1
        simp only [cmdsI, trun_one, tstep, et]
      · intro b u x hu hx
        simp only [src] at hx ⊢
        split at hx
        · rename_i q
          rw [if_pos q]
          split at hx
          · rename_i q2
            have : st' = u := by
              rcases hu with rfl | rfl
              · exact hst.e4 q2
              · exact hst.e5 q2
            rw [if_pos this]; exact hx
          · rename_i q2
            split at hx
            · cases hx
            · rename_i q3
              obtain ⟨q4, q5⟩ := stle_pass hst h3 hu q2 q3
              rw [if_neg q4, if_neg q5]; exact i3 b u x hu hx
        · rename_i q; rw [if_neg q]; exact i3 b u x hu hx
theorem rowsT_len (a : Nat) : ∀ L, (rowsT a L).length ≤ lenT L ∧ ∀ r ∈ rowsT a L, r.spot < lenT L := by
  intro L
  induction L with
  | nil => exact ⟨Nat.le_refl _, fun r h => by cases h⟩
  | cons it L ih =>
    have hl := lenT_cons it L
    cases it with
    | push =>
      refine ⟨?_, fun r h => ?_⟩
      · show (rowsT a L).length ≤ _; omega
      · have := ih.2 r h; omega
    | junk cs =>
      refine ⟨?_, fun r h => ?_⟩
      · show (rowsT a L).length ≤ _; omega
      · have := ih.2 r h; omega
    | row b s st ag =>
      have hp : 0 < (encs (cmdsI (.row b s st ag))).length := encs_pos (by simp [cmdsI])
      unfold rowsT
      split
      · refine ⟨by simp; omega, fun r h => ?_⟩
        cases h with
        | head => dsimp only; omega
        | tail _ h => have := ih.2 r h; omega
      · exact ⟨by omega, fun r h => by have := ih.2 r h; omega⟩
theorem hitOct_append {x y : List Int} {r : Row} {p : Int} (h : r.spot < x.length) : hitOct (x ++ y) r p = hitOct x r p ++ y := by
  unfold hitOct
  split
  · rfl
  · rw [List.set_append_left _ _ h]
    congr 2
    simp only [List.getD_eq_getElem?_getD]
    rw [List.getElem?_append_left h]
/-- a barred row's item -/
noncomputable def barI (u : Int) : Item → Item
  | .row b s st ag => .row b s (barredP st u) ag
  | it => it
theorem bar_le {s : Nat → Int → Option Int} {b : Nat} {z st u : Int} {ag : Bool} (hu : u = 4 ∨ u = 5) (h : VI s (.row b z st ag)) : ItLe (.row b z st ag) (.row b z (barredP st u) ag) ∧ encs (cmdsI (.row b z (barredP st u) ag)) = encs (cmdsI (.row b z st ag)) := by
  obtain ⟨h1, h2, h3, h4⟩ := h
  have hst := six h3
  cases ag with
  | true =>
    obtain ⟨q, _⟩ := h4 rfl
    have e : barredP st u = st := by
      unfold barredP
      rcases q with rfl | rfl <;> simp
    rw [e]; exact ⟨.refl _, rfl⟩
  | false =>
    refine ⟨.row _ _ _ _ ?_, ?_⟩
    · unfold barredP
      rcases hu with rfl | rfl <;> rcases hst with rfl | rfl | rfl | rfl | rfl | rfl <;> constructor <;> decide
    · unfold cmdsI sortI barredP
      rcases hu with rfl | rfl <;> rcases hst with rfl | rfl | rfl | rfl | rfl | rfl <;> rfl
theorem bar_pass {st u : Int} (h : 0 ≤ st ∧ st ≤ 5) (hu : u = 4 ∨ u = 5) (h4 : u = 4 → ¬ st = 4) (h5 : u = 5 → ¬ st = 5) : ¬ barredP st u = u ∧ ¬ (barredP st u = 0 ∨ (u = 4 ∧ barredP st u = 1) ∨ (u = 5 ∧ barredP st u = 2)) := by
  have hst := six h
  rcases hu with rfl | rfl <;> rcases hst with rfl | rfl | rfl | rfl | rfl | rfl <;> first | exact ⟨by decide, by decide⟩ | exact absurd rfl (h4 rfl) | exact absurd rfl (h5 rfl)
theorem set_mid (x y : List Int) (o : Int) (p : Int) : (x ++ o :: y).set x.length ((x ++ o :: y).getD x.length 0 + p) = x ++ (o + p) :: y := by
  rw [List.set_append_right _ _ (Nat.le_refl _), Nat.sub_self]
  simp only [List.getD_eq_getElem?_getD, List.getElem?_append_right (Nat.le_refl _), Nat.sub_self]
  simp only [List.getElem?_cons_zero, Option.getD_some, List.set_cons_zero]
/-- what a hit leaves -/
noncomputable abbrev HitR (a : Nat) (size : Int) (L : List Item) (seen : Int) (k : Nat) (p : Int) : Prop := ∃ above r rest L' u, rowsT a L = above ++ r :: rest ∧ k = rest.length ∧ u = (hitRow r p).st ∧ (u = 4 ∨ u = 5) ∧ r.size = size ∧ rowsT a L' = above.map (barR u) ++ hitRow r p :: rest ∧ (∀ b, b ≠ a → rowsT b L' = rowsT b L) ∧
      octT L' = hitOct (octT L) r p ∧ LLe L L' ∧ src L' a u = some size ∧ (seen = 1 → u = 5) ∧ (seen = 2 → u = 4) ∧ r.spot < lenT L
/-- the hit, in the items -/
theorem hit_corr (a : Nat) (size : Int) : ∀ (L : List Item) (seen : Int) (k : Nat) (p : Int), Valid L → seen = 0 ∨ seen = 1 ∨ seen = 2 → hitT size (rowsT a L) seen = some (k, p) →
    HitR a size L seen k p := by
  intro L
  induction L with
  | nil => intro seen k p _ _ h; cases h
  | cons it L ih =>
    intro seen k p hv hs h
    obtain ⟨hvi, hvl⟩ := hv
    -- the row stands elsewhere
    have other : ∀ (it : Item), VI (src L) it → (rowsT a (it :: L) = rowsT a L) → (∀ M, rowsT a (it :: M) = rowsT a M) → (∀ b M, lenT M = lenT L → rowsT b M = rowsT b L → rowsT b (it :: M) = rowsT b (it :: L)) → (∀ M u, src (it :: M) a u = src M a u) → hitT size (rowsT a L) seen = some (k, p) →
        HitR a size (it :: L) seen k p := by
      intro it hi e1 e2 e3 e4 h
      obtain ⟨above, r, rest, L', u, c1, c2, c3, c4, c5, c6, c7, c8, c9, c10, c11, c12, c13⟩ := ih seen k p hvl hs h
      refine ⟨above, r, rest, it :: L', u, by rw [e1]; exact c1, c2, c3, c4, c5, by rw [e2]; exact c6, fun b hb => e3 b L' (c9.facts hvl).1 (c7 b hb), ?_, .cons (.refl _) c9, by rw [e4]; exact c10, c11, c12, by rw [lenT_cons]; omega⟩
      rw [octT_cons, octT_cons, c8, hitOct_append c13]
    cases it with
    | push => exact other .push trivial rfl (fun _ => rfl) (fun b M _ h => h) (fun _ _ => rfl) h
    | junk cs => exact other (.junk cs) hvi rfl (fun _ => rfl) (fun b M _ h => h) (fun _ _ => rfl) h
    | row b s st ag =>
      by_cases q : b = a
      · subst q
        have er : ∀ M st', rowsT b (.row b s st' ag :: M) = ⟨s, lenT M, st'⟩ :: rowsT b M := fun M st' => by rw [rowsT, if_pos rfl]
        rw [er] at h
        have hst := hvi.2.2.1
        -- the hit lies deeper
        have deep : ∀ seen', seen' = 0 ∨ seen' = 1 ∨ seen' = 2 → (seen = 1 → seen' = 1) → (seen = 2 → seen' = 2) → (st = 4 → seen' = 1) → (st = 5 → seen' = 2) → hitT size (rowsT b L) seen' = some (k, p) →
            HitR b size (.row b s st ag :: L) seen k p := by
          intro seen' hs' g1 g2 g4 g5 h
          obtain ⟨above, r, rest, L', u, c1, c2, c3, c4, c5, c6, c7, c8, c9, c10, c11, c12, c13⟩ := ih seen' k p hvl hs' h
          obtain ⟨bl, be⟩ := bar_le (u := u) c4 hvi
          refine ⟨⟨s, lenT L, st⟩ :: above, r, rest, .row b s (barredP st u) ag :: L', u, by rw [er, c1]; rfl, c2, c3, c4, c5, ?_, ?_, ?_, .cons bl c9, ?_, fun e => c11 (g1 e), fun e => c12 (g2 e), by rw [lenT_cons]; omega⟩
          · rw [er, c6, (c9.facts hvl).1]; rfl
          · intro c hc
            rw [rowsT, rowsT, if_neg (Ne.symm hc), if_neg (Ne.symm hc)]
            exact c7 c hc
          · rw [octT_cons, octT_cons, be, c8, hitOct_append c13]
          · rw [src, if_pos rfl]
            obtain ⟨n1, n2⟩ := bar_pass hst c4 (fun e1 e2 => absurd (c11 (g4 e2)) (by rw [e1]; decide)) (fun e1 e2 => absurd (c12 (g5 e2)) (by rw [e1]; decide))
            rw [if_neg n1, if_neg n2]; exact c10
        -- the hit is here
        have here : ∀ p', (p' = 0 ∧ (st = 4 ∨ st = 5) ∨ p' = 5 ∧ (st = 0 ∨ st = 1) ∨ p' = 10 ∧ (st = 0 ∨ st = 2)) → s = size → some ((rowsT b L).length, p') = some (k, p) → (seen = 1 → (hitRow ⟨s, lenT L, st⟩ p').st = 5) → (seen = 2 → (hitRow ⟨s, lenT L, st⟩ p').st = 4) →
            HitR b size (.row b s st ag :: L) seen k p := by
          intro p' hp' hsz hh g1 g2
          injection hh with hh
          injection hh with hk hp
          subst hp
          obtain ⟨u, hu⟩ : ∃ u, u = (hitRow ⟨s, lenT L, st⟩ p').st := ⟨_, rfl⟩
          have hu4 : u = 4 ∨ u = 5 := by
            rw [hu]; unfold hitRow
            rcases hp' with ⟨rfl, q⟩ | ⟨rfl, q⟩ | ⟨rfl, q⟩
            · rw [if_pos rfl]; exact q
            · rw [if_neg (by decide)]; exact .inl rfl
            · rw [if_neg (by decide)]; exact .inr rfl
          have hpos : 0 < (encs (cmdsI (.row b s st ag))).length := encs_pos (by simp [cmdsI])
          refine ⟨[], ⟨s, lenT L, st⟩, rowsT b L, .row b s u ag :: L, u, er L st, hk.symm, hu, hu4, hsz, ?_, ?_, ?_, .cons ?_ (LLe.refl _), ?_, by rw [hu]; exact g1, by rw [hu]; exact g2, by rw [lenT_cons]; dsimp only; omega⟩
          · rw [er, hu]
            unfold hitRow
            split <;> rfl
          · intro c hc
            rw [rowsT, rowsT, if_neg (Ne.symm hc), if_neg (Ne.symm hc)]
          · rw [octT_cons, octT_cons]
            rcases hp' with ⟨rfl, q⟩ | ⟨rfl, q⟩ | ⟨rfl, q⟩
            · have : u = st := by rw [hu]; rfl
              rw [this]; rfl
            · have hag : ag = false := by
                cases ag with
                | false => rfl
                | true => have := (hvi.2.2.2 rfl).1; omega
              have : u = 4 := by rw [hu]; rfl
              subst this hag
              have es : sortI s 4 false = sortI s st false + 5 := by
                unfold sortI; rcases q with rfl | rfl <;> simp
              have et : tblP (sortI s 4 false) = tblP (sortI s st false) := by
                rw [(sort_facts false (by decide) (by simp)).2.2.1 rfl, (sort_facts false hst (by simp)).2.2.1 rfl]
              rw [es] at et
              unfold hitOct
              rw [if_neg (by decide)]
              have el : lenT L = (octT L).length := rfl
              simp only [cmdsI, encs, List.flatMap_cons, List.flatMap_nil, List.append_nil, encC, et, es]
              rw [el, set_mid]
              congr 2
            · have hag : ag = false := by
                cases ag with
                | false => rfl
                | true => have := (hvi.2.2.2 rfl).1; omega
              have : u = 5 := by rw [hu]; rfl
              subst this hag
              have es : sortI s 5 false = sortI s st false + 10 := by
                unfold sortI; rcases q with rfl | rfl <;> simp
              have et : tblP (sortI s 5 false) = tblP (sortI s st false) := by
                rw [(sort_facts false (by decide) (by simp)).2.2.1 rfl, (sort_facts false hst (by simp)).2.2.1 rfl]
              rw [es] at et
              unfold hitOct
              rw [if_neg (by decide)]
              have el : lenT L = (octT L).length := rfl
              simp only [cmdsI, encs, List.flatMap_cons, List.flatMap_nil, List.append_nil, encC, et, es]
              rw [el, set_mid]
              congr 2
          · rcases hp' with ⟨rfl, q⟩ | ⟨rfl, q⟩ | ⟨rfl, q⟩
            · have : u = st := by rw [hu]; rfl
              rw [this]; exact .refl _
            · have hag : ag = false := by
                cases ag with
                | false => rfl
                | true => have := (hvi.2.2.2 rfl).1; omega
              have : u = 4 := by rw [hu]; rfl
              subst this hag
              refine .row _ _ _ _ ?_
              rcases q with rfl | rfl <;> constructor <;> decide
            · have hag : ag = false := by
                cases ag with
                | false => rfl
                | true => have := (hvi.2.2.2 rfl).1; omega
              have : u = 5 := by rw [hu]; rfl
              subst this hag
              refine .row _ _ _ _ ?_
              rcases q with rfl | rfl <;> constructor <;> decide
          · rw [src, if_pos rfl, if_pos rfl, hsz]
        rw [hitT_cons] at h
        dsimp only at h
        split at h
        · rename_i qs
          split at h
          · rename_i q1
            refine here 0 (.inl ⟨rfl, by omega⟩) qs h (fun e => ?_) (fun e => ?_)
            · show st = 5; omega
            · show st = 4; omega
          · rename_i q1
            split at h
            · rename_i q2
              exact here 5 (.inr (.inl ⟨rfl, by omega⟩)) qs h (fun e => by omega) (fun e => rfl)
            · rename_i q2
              split at h
              · rename_i q3
                exact here 10 (.inr (.inr ⟨rfl, by omega⟩)) qs h (fun e => rfl) (fun e => by omega)
              · rename_i q3
                exact deep seen hs (fun e => e) (fun e => e) (fun e => Classical.byContradiction fun n => q1 (.inl ⟨e, n⟩)) (fun e => Classical.byContradiction fun n => q1 (.inr ⟨e, n⟩)) h
        · split at h
          · rename_i q1
            split at h
            · cases h
            · exact deep 1 (by omega) (by omega) (by omega) (by omega) (by omega) h
          · rename_i q1
            split at h
            · rename_i q2
              split at h
              · cases h
              · exact deep 2 (by omega) (by omega) (by omega) (by omega) (by omega) h
            · rename_i q2
              exact deep seen hs (fun e => e) (fun e => e) (fun e => absurd e q1) (fun e => absurd e q2) h
      · refine other (.row b s st ag) hvi ?_ (fun M => ?_) (fun c M hl hr => ?_) (fun M u => ?_) ?_
        · rw [rowsT, if_neg q]
        · rw [rowsT, if_neg q]
        · rw [rowsT, rowsT, hl, hr]
        · rw [src, if_neg q]
        · rw [rowsT, if_neg q] at h; exact h
end
section
set_option genSizeOf false
set_option genSizeOfSpec false
set_option maxRecDepth 100000
set_option autoImplicit false
noncomputable def PairOk (r1 r2 : Row) : Prop := (r1.st = 0 → r2.st = 0 ∨ r2.st = 4 ∨ r2.st = 5) ∧ (r1.st = 4 → r1.size = r2.size ∨ r2.st = 2 ∨ r2.st = 5) ∧ (r1.st = 5 → r1.size = r2.size ∨ r2.st = 1 ∨ r2.st = 4)
/-- what is known of the latest rows of a direction -/
noncomputable def N2 : List Int → List Row → Prop
  | [], _ => True
  | [x], T => ∃ r T', T = r :: T' ∧ r.size = x ∧ (r.st = 0 ∨ r.st = 4 ∨ r.st = 5)
  | x :: y :: _, T => ∃ r r2 T', T = r :: r2 :: T' ∧ r.size = x ∧ r2.size = y ∧ (r.st = 0 ∨ r.st = 4 ∨ r.st = 5) ∧ PairOk r r2
theorem N2.top {x : Int} {X : List Int} {T : List Row} (h : N2 (x :: X) T) : ∃ r T', T = r :: T' ∧ r.size = x ∧ (r.st = 0 ∨ r.st = 4 ∨ r.st = 5) := by
  cases X with
  | nil => exact h
  | cons y X => obtain ⟨r, r2, T', e, h1, _, h3, _⟩ := h; exact ⟨r, _, e, h1, h3⟩
theorem near_hit {size : Int} {X : List Int} {T : List Row} (h : N2 X T) (hm : size ∈ X.take 2) : hitT size T 0 ≠ none := by
  have top : ∀ r T', r.size = size → (r.st = 0 ∨ r.st = 4 ∨ r.st = 5) → hitT size (r :: T') 0 ≠ none := by
    intro r T' e hst
    rw [hitT_cons, if_pos e]
    rcases hst with q | q | q <;> simp [q]
  match X, h, hm with
  | [x], h, hm =>
    obtain ⟨r, T', rfl, h1, h2⟩ := h
    simp at hm
    exact top r T' (by rw [h1, hm]) h2
  | x :: y :: X, h, hm =>
    obtain ⟨r, r2, T', rfl, h1, h2, h3, h4⟩ := h
    simp at hm
    by_cases q : r.size = size
    · exact top r _ q h3
    · have hy : r2.size = size := by
        rcases hm with e | e
        · exact absurd (by rw [h1, e]) q
        · rw [h2, e]
      rw [hitT_cons, if_neg q]
      rcases h3 with q3 | q3 | q3
      · rw [if_neg (by omega), if_neg (by omega)]
        exact top r2 T' hy (h4.1 q3)
      · rw [if_pos q3, if_neg (by decide), hitT_cons, if_pos hy]
        have := h4.2.1 q3
        have hn : ¬ r.size = r2.size := fun e => q (by rw [e, hy])
        rcases this with e | e | e
        · exact absurd e hn
        · simp [e]
        · simp [e]
      · rw [if_neg (by omega), if_pos q3, if_neg (by decide), hitT_cons, if_pos hy]
        have := h4.2.2 q3
        have hn : ¬ r.size = r2.size := fun e => q (by rw [e, hy])
        rcases this with e | e | e
        · exact absurd e hn
        · simp [e]
        · simp [e]
theorem hitT_row (size : Int) : ∀ (T : List Row) (seen : Int) (k : Nat) (p : Int), hitT size T seen = some (k, p) → ∃ above r rest, T = above ++ r :: rest ∧ k = rest.length ∧ (seen = 1 → (hitRow r p).st = 5) ∧ (seen = 2 → (hitRow r p).st = 4) := by
  intro T
  induction T with
  | nil => intro seen k p h; cases h
  | cons r T ih =>
    intro seen k p h
    have deep : ∀ seen', (seen = 1 → seen' = 1) → (seen = 2 → seen' = 2) → hitT size T seen' = some (k, p) → ∃ above r' rest, r :: T = above ++ r' :: rest ∧ k = rest.length ∧ (seen = 1 → (hitRow r' p).st = 5) ∧ (seen = 2 → (hitRow r' p).st = 4) := by
      intro seen' g1 g2 h
      obtain ⟨above, r', rest, e, h1, h2, h3⟩ := ih seen' k p h
      exact ⟨r :: above, r', rest, by rw [e]; rfl, h1, fun q => h2 (g1 q), fun q => h3 (g2 q)⟩
    have here : ∀ p', some (T.length, p') = some (k, p) → (seen = 1 → (hitRow r p').st = 5) → (seen = 2 → (hitRow r p').st = 4) → ∃ above r' rest, r :: T = above ++ r' :: rest ∧ k = rest.length ∧ (seen = 1 → (hitRow r' p).st = 5) ∧ (seen = 2 → (hitRow r' p).st = 4) := by
      intro p' hh g1 g2
      injection hh with hh
      injection hh with hk hp
      subst hp
      exact ⟨[], r, T, rfl, hk.symm, g1, g2⟩
    rw [hitT_cons] at h
    split at h
    · split at h
      · rename_i q1
        refine here 0 h (fun e => ?_) (fun e => ?_)
        · show r.st = 5; omega
        · show r.st = 4; omega
      · split at h
        · exact here 5 h (fun e => by omega) (fun e => rfl)
        · split at h
          · exact here 10 h (fun e => rfl) (fun e => by omega)
          · exact deep seen (fun e => e) (fun e => e) h
    · split at h
      · split at h
        · cases h
        · exact deep 1 (by omega) (by omega) h
      · split at h
        · split at h
          · cases h
          · exact deep 2 (by omega) (by omega) h
        · exact deep seen (fun e => e) (fun e => e) h
theorem hitRow_size (r : Row) (p : Int) : (hitRow r p).size = r.size := by unfold hitRow; split <;> rfl
theorem split_len {α : Type} {a a' : List α} {r r' : α} {t t' : List α} (h : a ++ r :: t = a' ++ r' :: t') (hl : t.length = t'.length) : a = a' ∧ r = r' ∧ t = t' := by
  have := List.append_inj' (s₁ := a) (s₂ := a') (t₁ := r :: t) (t₂ := r' :: t') h (by simp [hl])
  obtain ⟨h1, h2⟩ := this
  injection h2 with h2 h3
  exact ⟨h1, h2, h3⟩
theorem n2_none {size : Int} {X : List Int} {T : List Row} {n : Nat} (h : N2 X T) : N2 (size :: X) (⟨size, n, 0⟩ :: T) := by
  cases X with
  | nil => exact ⟨_, _, rfl, rfl, .inl rfl⟩
  | cons x X =>
    obtain ⟨r, T', rfl, h1, h2⟩ := h.top
    exact ⟨_, r, T', rfl, rfl, h1, .inl rfl, fun _ => h2, fun e => absurd (show (0 : Int) = 4 from e) (by decide), fun e => absurd (show (0 : Int) = 5 from e) (by decide)⟩
theorem n2_hit {size : Int} {X : List Int} {above rest : List Row} {r : Row} {p u : Int} {n : Nat} (h : N2 X (above ++ r :: rest)) (hh : hitT size (above ++ r :: rest) 0 = some (rest.length, p)) (hu : u = (hitRow r p).st) (hu4 : u = 4 ∨ u = 5) (hs : r.size = size) :
    N2 (size :: X) (⟨size, n, u⟩ :: (above.map (barR u) ++ hitRow r p :: rest)) := by
  cases X with
  | nil => exact ⟨_, _, rfl, rfl, .inr hu4⟩
  | cons x X =>
    obtain ⟨r1, T', e, h1, h2⟩ := h.top
    cases above with
    | nil =>
      injection e with e1 e2
      subst e1
      refine ⟨_, hitRow r p, rest, rfl, rfl, by rw [hitRow_size]; exact h1, .inr hu4, fun e => ?_, fun e => .inl ?_, fun e => .inl ?_⟩
      · dsimp only at e; omega
      · rw [hitRow_size]; exact hs.symm
      · rw [hitRow_size]; exact hs.symm
    | cons r1' above =>
      injection e with e1 e2
      subst e1 e2
      refine ⟨_, barR u r1', above.map (barR u) ++ hitRow r p :: rest, rfl, rfl, h1, .inr hu4, ?_⟩
      have hlen : (above ++ r :: rest).length ≠ rest.length := by simp; omega
      have hne : ¬ r1'.size = size := by
        intro q
        rw [List.cons_append, hitT_cons, if_pos q] at hh
        rcases h2 with q2 | q2 | q2
        · simp [q2] at hh; omega
        · simp [q2] at hh; omega
        · simp [q2] at hh; omega
      rw [List.cons_append, hitT_cons, if_neg hne] at hh
      have fin : ∀ seen, hitT size (above ++ r :: rest) seen = some (rest.length, p) → (seen = 1 → u = 5) ∧ (seen = 2 → u = 4) := by
        intro seen hh
        obtain ⟨a', r', t', e, hl, g1, g2⟩ := hitT_row _ _ _ _ _ hh
        obtain ⟨_, e2, _⟩ := split_len e hl
        subst e2
        exact ⟨fun q => by rw [hu]; exact g1 q, fun q => by rw [hu]; exact g2 q⟩
      refine ⟨fun e => ?_, fun e => ?_, fun e => ?_⟩
      · dsimp only at e; omega
      · dsimp only at e; subst e
        refine .inr ?_
        show barredP r1'.st 4 = 2 ∨ barredP r1'.st 4 = 5
        rcases h2 with q2 | q2 | q2
        · rw [q2]; exact .inl rfl
        · rw [if_pos q2, if_neg (by decide)] at hh
          have := (fin 1 hh).1 rfl
          cases this
        · rw [q2]; exact .inr rfl
      · dsimp only at e; subst e
        refine .inr ?_
        show barredP r1'.st 5 = 1 ∨ barredP r1'.st 5 = 4
        rcases h2 with q2 | q2 | q2
        · rw [q2]; exact .inl rfl
        · rw [q2]; exact .inr rfl
        · rw [if_neg (by omega), if_pos q2, if_neg (by decide)] at hh
          have := (fin 2 hh).2 rfl
          cases this
noncomputable def KOk : List Item → List Kept → Prop
  | [], ks => ks = []
  | .push :: _, [] => False
  | .push :: L, k :: ks => k.b = lenT L + 1 ∧ KOk L ks
  | .row _ _ _ _ :: L, ks => KOk L ks
  | .junk _ :: L, ks => KOk L ks
theorem KOk.le {L L' : List Item} (h : LLe L L') (hv : Valid L) : ∀ ks, KOk L ks → KOk L' ks := by
  induction h with
  | nil => intro ks h; exact h
  | @cons it it' L L' hi hl ih =>
    intro ks hk
    have e := (hl.facts hv.2).1
    cases hi with
    | refl it =>
      cases it with
      | push =>
        cases ks with
        | nil => exact hk
        | cons k ks => exact ⟨by rw [e]; exact hk.1, ih hv.2 ks hk.2⟩
      | junk cs => exact ih hv.2 ks hk
      | row a s st ag => exact ih hv.2 ks hk
    | row a s st st' _ => exact ih hv.2 ks hk
theorem move_inv {a : Nat} (ha : a < 2) {size : Int} (hz : size.natAbs < 2147483648) {L : List Item} (hv : Valid L) {X : List Int} (hn : N2 X (rowsT a L)) :
    ∃ L' took, moveP (143 + 14 * a) size (octT L) (rowsT a L).reverse = (octT L', (rowsT a L').reverse) ∧ (∀ b, b ≠ a → rowsT b L' = rowsT b L) ∧ Valid L' ∧ N2 (size :: X) (rowsT a L') ∧ (∀ ks, KOk L ks → KOk L' ks) ∧
      (∀ t t', trun t (cmdsT L) = some t' → trun t (cmdsT L') = some (tmv t' a size took)) ∧ (took = 1 ∨ took = 1 + roomS size) ∧ (size ∈ X.take 2 → took = 1) ∧ lenT L' ≤ lenT L + 5 := by
  have hr := roomS_pos size
  cases hh : hitT size (rowsT a L) 0 with
  | none =>
    refine ⟨.row a size 0 false :: L, 1 + roomS size, ?_, ?_, ⟨⟨ha, hz, by decide, fun e => by cases e⟩, hv⟩, ?_, fun ks h => h, ?_, .inr rfl, fun hm => absurd hh (near_hit hn hm), ?_⟩
    · unfold moveP
      rw [List.reverse_reverse, hh]
      dsimp only
      rw [octT_cons, rowsT, if_pos rfl, List.reverse_cons]
      congr 1
      simp only [cmdsI, encs, List.flatMap_cons, List.flatMap_nil, List.append_nil, encC]
      rw [(sort_facts false (by decide) (by simp)).2.2.1 rfl]
      unfold signedB sortI
      simp only [Bool.false_eq_true, if_false]
      rw [if_neg (by decide), if_neg (by decide)]
      congr 2
      omega
    · intro b hb; rw [rowsT, if_neg (Ne.symm hb)]
    · rw [rowsT, if_pos rfl]; exact n2_none hn
    · intro t t' ht
      rw [cmdsT, trun_append, ht]
      dsimp only [Option.bind, cmdsI]
      rw [trun_one]
      simp only [tstep]
      rw [(sort_facts false (by decide) (by simp)).2.2.1 rfl]
    · rw [lenT_cons]
      simp only [cmdsI, encs, List.flatMap_cons, List.flatMap_nil, List.append_nil, encC, List.length_cons, bytesN_length]
      rw [(sort_facts false (by decide) (by simp)).2.2.1 rfl]
      omega
  | some kp =>
    obtain ⟨k, p⟩ := kp
    obtain ⟨above, r, rest, L1, u, c1, c2, c3, c4, c5, c6, c7, c8, c9, c10, c11, c12, c13⟩ := hit_corr a size L 0 k p hv (.inl rfl) hh
    subst c2
    obtain ⟨f1, f2, f3, f4⟩ := c9.facts hv
    have hsort : sortI size u true = if u = 4 then 4 else 9 := by unfold sortI; rw [if_pos rfl]
    have htbl : tblP (sortI size u true) = 0 := (sort_facts true (by omega) fun _ => c4).2.1 rfl
    have hor : (hitOct (octT L) r p).length = lenT L := hitOct_length _ _ _
    refine ⟨.row a size u true :: L1, 1, ?_, ?_, ⟨⟨ha, hz, by omega, fun _ => ⟨c4, c10⟩⟩, f4⟩, ?_, fun ks h => KOk.le c9 hv ks h, ?_, .inl rfl, fun _ => rfl, ?_⟩
    · unfold moveP
      rw [List.reverse_reverse, hh]
      have e1 : (rowsT a L).reverse = rest.reverse ++ r :: above.reverse := by rw [c1]; simp
      have e2 : (rowsT a L).reverse[rest.length]? = some r := by
        rw [e1, List.getElem?_append_right (by simp)]; simp
      dsimp only
      rw [e2]
      dsimp only
      rw [← c3, octT_cons, c8, rowsT, if_pos rfl, List.reverse_cons, c6, e1]
      congr 1
      · congr 1
        simp only [cmdsI, encs, List.flatMap_cons, List.flatMap_nil, List.append_nil, encC]
        rw [htbl, hsort]
        rcases c4 with rfl | rfl
        · rw [if_pos rfl, if_pos rfl]; rfl
        · rw [if_neg (by decide), if_neg (by decide)]; rfl
      · have t1 : (rest.reverse ++ r :: above.reverse).take rest.length = rest.reverse := by
          rw [List.take_append_of_le_length (by simp), List.take_of_length_le (by simp)]
        have t2 : (rest.reverse ++ r :: above.reverse).drop (rest.length + 1) = above.reverse := by
          have : rest.reverse ++ r :: above.reverse = (rest.reverse ++ [r]) ++ above.reverse := by simp
          rw [this, List.drop_left' (by simp)]
        rw [t1, t2, f1]
        simp [lenT]
    · intro b hb; rw [rowsT, if_neg (Ne.symm hb)]; exact c7 b hb
    · rw [rowsT, if_pos rfl, c6]
      rw [c1] at hn hh
      exact n2_hit hn hh c3 c4 c5
    · intro t t' ht
      rw [cmdsT, trun_append, f2, ht]
      dsimp only [Option.bind, cmdsI]
      rw [trun_one]
      simp only [tstep]
      rw [htbl]; rfl
    · rw [lenT_cons, f1]
      simp only [cmdsI, encs, List.flatMap_cons, List.flatMap_nil, List.append_nil, encC, List.length_cons, bytesN_length]
      rw [htbl]
      omega
end
section
set_option genSizeOf false
set_option genSizeOfSpec false
set_option maxRecDepth 100000
set_option autoImplicit false
noncomputable def costP (size took : Int) (near : Bool) : Prop := if size = 0 ∨ near = true then took = (if size = 0 then 0 else 1) else took = 1 ∨ took = 1 + roomS size
noncomputable def OutOk (i : Nat) (o : Out) (r : WRow) : Prop := o.k = i ∧ o.h = r.h ∧ o.v = r.v ∧ costP r.aside o.ta r.na ∧ costP r.down o.td r.nd
noncomputable def OutsOk (os : List Out) (rs : List WRow) : Prop := os.length = rs.length ∧ ∀ i o r, os[i]? = some o → rs[i]? = some r → OutOk i o r
theorem OutsOk.snoc {os : List Out} {rs : List WRow} {o : Out} {r : WRow} (h : OutsOk os rs) (k : OutOk rs.length o r) : OutsOk (os ++ [o]) (rs ++ [r]) := by
  refine ⟨by simp [h.1], fun i o' r' e1 e2 => ?_⟩
  by_cases q : i < rs.length
  · rw [List.getElem?_append_left (by rw [h.1]; exact q)] at e1
    rw [List.getElem?_append_left q] at e2
    exact h.2 i o' r' e1 e2
  · have hi : i = rs.length := by
      have := (List.getElem?_eq_some_iff.mp e2).1
      simp at this; omega
    subst hi
    rw [List.getElem?_append_right (Nat.le_refl _)] at e2
    rw [← h.1, List.getElem?_append_right (Nat.le_refl _)] at e1
    simp at e1 e2
    subst e1 e2
    exact k
noncomputable def t0 : TM := ⟨0, 0, [], [], 0, 0, 0⟩
theorem rel0 : Rel mac0 t0 := by
  constructor <;> first | rfl | (intro f hf; cases hf)
/-- the page and its items -/
structure PInv (S : PgS) (L : List Item) (t : TM) : Prop where
  oct : S.oct = octT L
  ra : S.rsa = (rowsT 0 L).reverse
  rd : S.rsd = (rowsT 1 L).reverse
  val : Valid L
  run : trun t0 (cmdsT L) = some t
  h : S.h = t.h
  v : S.v = t.v
theorem PInv.ok {S : PgS} {L : List Item} {t : TM} (P : PInv S L t) (hb : lenT L ≤ 900000) : PgOk S := by
  obtain ⟨a1, a2⟩ := rowsT_len 0 L
  obtain ⟨d1, d2⟩ := rowsT_len 1 L
  have e : (octT L).length = lenT L := rfl
  refine ⟨by rw [P.oct, e]; unfold LIM; omega, by rw [P.ra, List.length_reverse]; unfold LIM; omega, by rw [P.rd, List.length_reverse]; unfold LIM; omega, fun r hr => ?_, fun r hr => ?_⟩
  · rw [P.oct, e]; rw [P.ra, List.mem_reverse] at hr; exact a2 r hr
  · rw [P.oct, e]; rw [P.rd, List.mem_reverse] at hr; exact d2 r hr
noncomputable def nzr (s : Int) (X : List Int) : List Int := if s = 0 then X else s :: X
theorem tmv_zero (t : TM) (a : Nat) : tmv t a 0 0 = t := by unfold tmv; simp
theorem goA_inv {S : PgS} {L : List Item} {t : TM} (P : PInv S L t) {s : Int} (hs : s.natAbs < 2147483648) {X0 X1 : List Int} (n0 : N2 X0 (rowsT 0 L)) (n1 : N2 X1 (rowsT 1 L)) {ks : List Kept} (hk : KOk L ks) :
    ∃ L' took, PInv (goA S (S.h + s)) L' (tmv t 0 s took) ∧ N2 (nzr s X0) (rowsT 0 L') ∧ N2 X1 (rowsT 1 L') ∧ KOk L' ks ∧ costP s took ((X0.take 2).contains s) ∧ lenT L' ≤ lenT L + 5 ∧ (goA S (S.h + s)).deepest = S.deepest := by
  unfold goA nzr
  by_cases q : s = 0
  · subst q
    refine ⟨L, 0, ?_, by rw [if_pos rfl]; exact n0, n1, hk, by unfold costP; rw [if_pos (.inl rfl)]; rfl, by omega, by rw [if_pos (by omega)]⟩
    rw [if_pos (by omega), tmv_zero]; exact P
  · rw [if_neg (by omega), if_neg q]
    have e : S.h + s - S.h = s := by omega
    obtain ⟨L', took, c1, c2, c3, c4, c5, c6, c7, c8, c9⟩ := move_inv (a := 0) (by decide) hs P.val n0
    rw [e, P.oct, P.ra]
    have c1 : moveP 143 s (octT L) (rowsT 0 L).reverse = (octT L', (rowsT 0 L').reverse) := c1
    refine ⟨L', took, ⟨?_, ?_, ?_, c3, c6 _ _ P.run, ?_, ?_⟩, c4, by rw [c2 1 (by decide)]; exact n1, c5 ks hk, ?_, c9, rfl⟩
    · rw [c1]
    · rw [c1]
    · show S.rsd = _; rw [c2 1 (by decide)]; exact P.rd
    · show S.h + s = t.h + s; rw [P.h]
    · exact P.v
    · unfold costP
      by_cases hm : s ∈ X0.take 2
      · rw [if_pos (.inr (by simpa using hm)), if_neg q]; exact c8 hm
      · rw [if_neg (by simp [q, hm])]; exact c7
theorem goD_inv {S : PgS} {L : List Item} {t : TM} (P : PInv S L t) {s : Int} (hs : s.natAbs < 2147483648) {X0 X1 : List Int} (n0 : N2 X0 (rowsT 0 L)) (n1 : N2 X1 (rowsT 1 L)) {ks : List Kept} (hk : KOk L ks) :
    ∃ L' took, PInv (goD S (S.v + s)) L' (tmv t 1 s took) ∧ N2 X0 (rowsT 0 L') ∧ N2 (nzr s X1) (rowsT 1 L') ∧ KOk L' ks ∧ costP s took ((X1.take 2).contains s) ∧ lenT L' ≤ lenT L + 5 ∧ (goD S (S.v + s)).deepest = S.deepest := by
  unfold goD nzr
  by_cases q : s = 0
  · subst q
    refine ⟨L, 0, ?_, n0, by rw [if_pos rfl]; exact n1, hk, by unfold costP; rw [if_pos (.inl rfl)]; rfl, by omega, by rw [if_pos (by omega)]⟩
    rw [if_pos (by omega), tmv_zero]; exact P
  · rw [if_neg (by omega), if_neg q]
    have e : S.v + s - S.v = s := by omega
    obtain ⟨L', took, c1, c2, c3, c4, c5, c6, c7, c8, c9⟩ := move_inv (a := 1) (by decide) hs P.val n1
    rw [e, P.oct, P.rd]
    have c1 : moveP 157 s (octT L) (rowsT 1 L).reverse = (octT L', (rowsT 1 L').reverse) := c1
    refine ⟨L', took, ⟨?_, ?_, ?_, c3, c6 _ _ P.run, ?_, ?_⟩, by rw [c2 0 (by decide)]; exact n0, c4, c5 ks hk, ?_, c9, rfl⟩
    · rw [c1]
    · show S.rsa = _; rw [c2 0 (by decide)]; exact P.ra
    · rw [c1]
    · exact P.h
    · show S.v + s = t.v + s; rw [P.v]
    · unfold costP
      by_cases hm : s ∈ X1.take 2
      · rw [if_pos (.inr (by simpa using hm)), if_neg q]; exact c8 hm
      · rw [if_neg (by simp [q, hm])]; exact c7
structure Inv (n : Nat) (W : WSt) (L : List Item) (t : TM) : Prop where
  pg : PInv W.S L t
  sh : W.S.h = W.sh
  sv : W.S.v = W.sv
  tk : t.kept = W.kept.map fun k => (k.h, k.v)
  deep : t.deep = W.S.deepest
  dp : 0 ≤ W.S.deepest
  ta : t.ta = 0
  td : t.td = 0
  outs : OutsOk t.outs W.rows
  ko : KOk L W.kept.reverse
  na : N2 W.la.reverse (rowsT 0 L)
  nd : N2 W.ld.reverse (rowsT 1 L)
  bl : lenT L ≤ 20 * n
  bh : W.sh.natAbs ≤ 10000000 * n
  bv : W.sv.natAbs ≤ 10000000 * n
  bk : ∀ k ∈ W.kept, k.h.natAbs ≤ 10000000 * n ∧ k.v.natAbs ≤ 10000000 * n
  k4 : W.kept.length ≤ 4
  la : W.la.length ≤ n
  ld : W.ld.length ≤ n
  rw : W.rows.length ≤ n
theorem nat_up {x : Int} {n : Nat} (h : x.natAbs ≤ 10000000 * n) : x.natAbs ≤ 10000000 * (n + 1) := Nat.le_trans h (by omega)
theorem nat_add {x y : Int} {n : Nat} (h : x.natAbs ≤ 10000000 * n) (k : y.natAbs ≤ 10000000) : (x + y).natAbs ≤ 10000000 * (n + 1) := Nat.le_trans (Int.natAbs_add_le x y) (Nat.le_trans (Nat.add_le_add h k) (by omega))
theorem inv0 : Inv 0 W0 [] t0 := by
  refine ⟨⟨rfl, rfl, rfl, trivial, rfl, rfl, rfl⟩, rfl, rfl, rfl, rfl, by decide, rfl, rfl, ⟨rfl, fun i o r h => (by simp [t0] at h)⟩, rfl, trivial, trivial, by decide, by decide, by decide, fun k h => (by cases h), by decide, by decide, by decide, by decide⟩
theorem inv_push {n : Nat} {W : WSt} {L : List Item} {t : TM} (I : Inv n W L t) (h4 : W.kept.length < 4) : ∃ L' t', Inv (n + 1) (wpush W) L' t' := by
  have hd : (0 : Int) < (W.kept.length : Int) + 1 := by omega
  have eo : openP W.S ((W.kept.length : Int) + 1) = { W.S with oct := W.S.oct ++ [141] } := by unfold openP; rw [if_pos hd]
  have hlen : lenT (.push :: L) = lenT L + 1 := by rw [lenT_cons]; rfl
  refine ⟨.push :: L, { t with kept := t.kept ++ [(t.h, t.v)] }, ?_⟩
  unfold wpush
  rw [eo]
  have P := I.pg
  exact {
    pg := {
      oct := by show W.S.oct ++ [141] = _; rw [octT_cons, P.oct]; rfl
      ra := P.ra
      rd := P.rd
      val := ⟨trivial, P.val⟩
      run := by rw [cmdsT, trun_append, P.run]; rfl
      h := P.h
      v := P.v }
    sh := I.sh
    sv := I.sv
    tk := by show t.kept ++ _ = List.map _ (W.kept ++ _); rw [List.map_append, I.tk, ← P.h, ← P.v]; rfl
    deep := I.deep
    dp := I.dp
    ta := I.ta
    td := I.td
    outs := I.outs
    ko := by
      show KOk (.push :: L) (W.kept ++ [_]).reverse
      rw [List.reverse_append]
      refine ⟨?_, I.ko⟩
      show ((W.S.oct ++ [141]).length : Int) = _
      rw [P.oct, List.length_append]
      show (((octT L).length + 1 : Nat) : Int) = ((octT L).length : Int) + 1
      omega
    na := trivial
    nd := trivial
    bl := by rw [hlen]; have := I.bl; omega
    bh := nat_up I.bh
    bv := nat_up I.bv
    bk := fun k hk => by
      rcases List.mem_append.mp hk with q | q
      · exact ⟨nat_up (I.bk k q).1, nat_up (I.bk k q).2⟩
      · simp at q; subst q
        dsimp only
        rw [I.sh, I.sv]
        exact ⟨nat_up I.bh, nat_up I.bv⟩
    k4 := by simp; omega
    la := by simp
    ld := by simp
    rw := by have := I.rw; dsimp only; omega }
theorem last2_rev (l : List Int) (x : Int) : (last2 l).contains x = ((l.reverse.take 2).contains x) := by
  have : last2 l = (l.reverse.take 2).reverse := by
    unfold last2
    rw [List.reverse_take]; simp
  rw [this]
  rw [Bool.eq_iff_iff]
  simp
theorem nzr_rev (l : List Int) (x : Int) : (l ++ nz1 x).reverse = nzr x l.reverse := by
  unfold nz1 nzr
  split <;> simp
theorem nz1_len (x : Int) : (nz1 x).length ≤ 1 := by unfold nz1; split <;> simp
theorem inv_mark {n : Nat} {W : WSt} {L : List Item} {t : TM} (I : Inv n W L t) {a d : Int} (ha : a.natAbs ≤ 10000000) (hd : d.natAbs ≤ 10000000) (hn : n ≤ 40) :
    (PgOk (goA W.S (W.sh + a)) ∧ PgOk (goD (goA W.S (W.sh + a)) (W.sv + d))) ∧ ∃ L' t', Inv (n + 1) (wmark W a d) L' t' := by
  have hbl := I.bl
  obtain ⟨L1, k1, P1, x1, x2, x3, x4, x5, x6⟩ := goA_inv I.pg (s := a) (by omega) I.na I.nd I.ko
  rw [I.sh] at P1 x6
  have hv1 : (goA W.S (W.sh + a)).v = W.sv := by
    rw [← I.sv]; unfold goA; split <;> rfl
  obtain ⟨L2, k2, P2, y1, y2, y3, y4, y5, y6⟩ := goD_inv P1 (s := d) (by omega) x1 x2 x3
  rw [hv1] at P2 y6
  refine ⟨⟨P1.ok (by omega), P2.ok (by omega)⟩, .junk [.spec W.rows.length] :: L2, { tmv (tmv t 0 a k1) 1 d k2 with outs := t.outs ++ [⟨W.rows.length, (tmv (tmv t 0 a k1) 1 d k2).h, (tmv (tmv t 0 a k1) 1 d k2).v, k1, k2⟩], ta := 0, td := 0 }, ?_⟩
  have e1 : (tmv (tmv t 0 a k1) 1 d k2).h = W.sh + a := by unfold tmv; simp; rw [← I.pg.h, I.sh]
  have e2 : (tmv (tmv t 0 a k1) 1 d k2).v = W.sv + d := by unfold tmv; simp; rw [← I.pg.v, I.sv]
  have e3 : (tmv (tmv t 0 a k1) 1 d k2).ta = k1 := by unfold tmv; simp; rw [I.ta]; omega
  have e4 : (tmv (tmv t 0 a k1) 1 d k2).td = k2 := by unfold tmv; simp; rw [I.td]; omega
  have e5 : (tmv (tmv t 0 a k1) 1 d k2).outs = t.outs := rfl
  have e6 : (tmv (tmv t 0 a k1) 1 d k2).kept = t.kept := rfl
  have e7 : (tmv (tmv t 0 a k1) 1 d k2).deep = t.deep := rfl
  have hlen : lenT (.junk [.spec W.rows.length] :: L2) = lenT L2 + 3 := by rw [lenT_cons]; rfl
  generalize tmv (tmv t 0 a k1) 1 d k2 = T at *
  generalize hS : goD (goA W.S (W.sh + a)) (W.sv + d) = S2 at *
  have hrun : trun t0 (cmdsT (.junk [.spec W.rows.length] :: L2)) = some { T with outs := t.outs ++ [⟨W.rows.length, T.h, T.v, k1, k2⟩], ta := 0, td := 0 } := by
    rw [cmdsT, trun_append, P2.run]
    dsimp only [Option.bind, cmdsI]
    rw [trun_one]
    simp only [tstep]
    rw [e3, e4, e5]
  unfold wmark specialP
  rw [hS]
  exact {
    pg := {
      oct := by show S2.oct ++ _ = _; rw [octT_cons, P2.oct]; rfl
      ra := P2.ra
      rd := P2.rd
      val := by
        refine ⟨⟨by simp, fun m t t' R M hr => ?_⟩, P2.val⟩
        rw [trun_one] at hr
        injection hr with hr
        subst hr
        obtain ⟨r1, r2, r3, r4, r5, r6, r7, r8, r9⟩ := R
        refine ⟨_, crun_one _ _, ⟨r1, r2, r3, r4, r5, ?_, rfl, rfl, r9⟩, rfl, rfl, rfl⟩
        show m.outs ++ [_] = t.outs ++ [_]
        rw [r2, r3, r6, r7, r8]
      run := hrun
      h := P2.h
      v := P2.v }
    sh := P2.h.trans e1
    sv := P2.v.trans e2
    tk := e6.trans I.tk
    deep := by show T.deep = S2.deepest; rw [e7, y6, x6]; exact I.deep
    dp := by show 0 ≤ S2.deepest; rw [y6, x6]; exact I.dp
    ta := rfl
    td := rfl
    outs := by
      refine I.outs.snoc ⟨rfl, e1, e2, ?_, ?_⟩
      · dsimp only; rw [last2_rev]; exact x4
      · dsimp only; rw [last2_rev]; exact y4
    ko := y3
    na := by dsimp only; rw [nzr_rev]; exact y1
    nd := by dsimp only; rw [nzr_rev]; exact y2
    bl := by rw [hlen]; omega
    bh := nat_add I.bh ha
    bv := nat_add I.bv hd
    bk := fun k hk => ⟨nat_up (I.bk k hk).1, nat_up (I.bk k hk).2⟩
    k4 := I.k4
    la := by have := I.la; have := nz1_len a; simp; omega
    ld := by have := I.ld; have := nz1_len d; simp; omega
    rw := by have := I.rw; simp; omega }
end
section
set_option genSizeOf false
set_option genSizeOfSpec false
set_option maxRecDepth 100000
set_option autoImplicit false
theorem kok_split {k : Kept} {ks : List Kept} : ∀ {L : List Item}, KOk L (k :: ks) → ∃ I B, L = I ++ .push :: B ∧ (∀ it ∈ I, it ≠ .push) ∧ k.b = lenT B + 1 ∧ KOk B ks := by
  intro L
  induction L with
  | nil => intro h; cases h
  | cons it L ih =>
    intro h
    cases it with
    | push => exact ⟨[], L, rfl, fun z hz => (by cases hz), h.1, h.2⟩
    | junk cs =>
      obtain ⟨I, B, e, h1, h2, h3⟩ := ih h
      exact ⟨.junk cs :: I, B, by rw [e]; rfl, fun z hz => by
        cases hz with
        | head => intro q; cases q
        | tail _ hz => exact h1 z hz, h2, h3⟩
    | row a s st ag =>
      obtain ⟨I, B, e, h1, h2, h3⟩ := ih h
      exact ⟨.row a s st ag :: I, B, by rw [e]; rfl, fun z hz => by
        cases hz with
        | head => intro q; cases q
        | tail _ hz => exact h1 z hz, h2, h3⟩
theorem src_push (B : List Item) : ∀ I : List Item, src (I ++ .push :: B) = src (I ++ B) := by
  intro I
  induction I with
  | nil => rfl
  | cons it I ih =>
    funext a u
    cases it with
    | push => exact congrFun (congrFun ih a) u
    | junk cs => exact congrFun (congrFun ih a) u
    | row b s st ag => simp only [List.cons_append, src, ih]
theorem valid_push {B : List Item} : ∀ {I : List Item}, Valid (I ++ .push :: B) → Valid (I ++ B) := by
  intro I
  induction I with
  | nil => intro h; exact h.2
  | cons it I ih =>
    intro h
    refine ⟨?_, ih h.2⟩
    have := h.1
    change VI (src (I ++ .push :: B)) it at this
    rw [src_push] at this
    exact this
theorem valid_tail {B : List Item} : ∀ {I : List Item}, Valid (I ++ B) → Valid B := by
  intro I
  induction I with
  | nil => intro h; exact h
  | cons it I ih => intro h; exact ih h.2
theorem lenT_app (B : List Item) (I : List Item) : lenT B ≤ lenT (I ++ B) := by
  induction I with
  | nil => exact Nat.le_refl _
  | cons it I ih => rw [List.cons_append, lenT_cons]; omega
theorem lenT_lt {B I : List Item} (hI : I ≠ []) (hv : Valid (I ++ B)) : lenT B < lenT (I ++ B) := by
  cases I with
  | nil => exact absurd rfl hI
  | cons it I =>
    have := lenT_app B I
    rw [List.cons_append, lenT_cons]
    have hp : 0 < (encs (cmdsI it)).length := by
      refine encs_pos ?_
      cases it with
      | push => simp [cmdsI]
      | row a s st ag => simp [cmdsI]
      | junk cs => exact hv.1.1
    omega
theorem rowsT_app (a : Nat) (B : List Item) : ∀ I : List Item, ∃ R, rowsT a (I ++ B) = R ++ rowsT a B ∧ ∀ r ∈ R, lenT B ≤ r.spot := by
  intro I
  induction I with
  | nil => exact ⟨[], rfl, fun r h => (by cases h)⟩
  | cons it I ih =>
    obtain ⟨R, e, h⟩ := ih
    cases it with
    | push => exact ⟨R, e, h⟩
    | junk cs => exact ⟨R, e, h⟩
    | row b s st ag =>
      rw [List.cons_append, rowsT]
      split
      · refine ⟨⟨s, lenT (I ++ B), st⟩ :: R, by rw [e]; rfl, fun r hr => ?_⟩
        cases hr with
        | head => exact lenT_app B I
        | tail _ hr => exact h r hr
      · exact ⟨R, e, h⟩
theorem pruneN_app (b : Int) (T : List Row) (hT : ∀ r ∈ T, (r.spot : Int) < b) : ∀ R : List Row, (∀ r ∈ R, b ≤ r.spot) → pruneN b (R ++ T) = T.length := by
  intro R
  induction R with
  | nil =>
    intro _
    cases T with
    | nil => rfl
    | cons r T =>
      have := hT r (.head _)
      rw [List.nil_append, pruneN, if_neg (by omega)]; rfl
  | cons r R ih =>
    intro h
    rw [List.cons_append, pruneN, if_pos (h r (.head _))]
    exact ih fun r hr => h r (.tail _ hr)
theorem pruneP_app {b : Int} {R T : List Row} (hT : ∀ r ∈ T, (r.spot : Int) < b) (hR : ∀ r ∈ R, b ≤ r.spot) : pruneP b (R ++ T).reverse = T.reverse := by
  unfold pruneP
  rw [List.reverse_reverse, pruneN_app b T hT R hR, List.reverse_append, List.take_append_of_le_length (by simp), List.take_of_length_le (by simp)]
theorem inv_pop {n : Nat} {W : WSt} {L : List Item} {t : TM} (I : Inv n W L t) {k : Kept} (hk : W.kept.getLast? = some k) : W.S.oct ≠ [] ∧ ∃ L' t', Inv (n + 1) (wpop W k) L' t' := by
  obtain ⟨ks, ek⟩ : ∃ ks, W.kept = ks ++ [k] := by
    rcases List.eq_nil_or_concat W.kept with e | ⟨ks, k', e⟩
    · rw [e] at hk; cases hk
    · rw [List.concat_eq_append] at e
      rw [e, List.getLast?_append] at hk
      simp at hk
      exact ⟨ks, by rw [e, hk]⟩
  have hko := I.ko
  rw [ek, List.reverse_append] at hko
  obtain ⟨J, B, eL, hJ, hb, hkB⟩ := kok_split hko
  subst eL
  have P := I.pg
  have hlB : lenT (.push :: B) = lenT B + 1 := by rw [lenT_cons]; rfl
  have hoct : ((W.S.oct.length : Nat) : Int) = lenT (J ++ .push :: B) := by rw [P.oct]; rfl
  have hge := lenT_app (.push :: B) J
  have hdep : (0 : Int) < W.kept.length := by rw [ek]; simp
  have hvB : Valid B := (valid_tail (I := J) P.val).2
  have prune : ∀ a, pruneP k.b (rowsT a (J ++ .push :: B)).reverse = (rowsT a B).reverse := fun a => by
    obtain ⟨R, e, h⟩ := rowsT_app a (.push :: B) J
    have e2 : rowsT a (.push :: B) = rowsT a B := rfl
    rw [e, e2]
    refine pruneP_app (fun r hr => ?_) (fun r hr => ?_)
    · have := (rowsT_len a B).2 r hr; omega
    · have := h r hr; omega
  have tk : t.kept = ks.map (fun k => (k.h, k.v)) ++ [(k.h, k.v)] := by rw [I.tk, ek, List.map_append]; rfl
  have ed : W.kept.dropLast = ks := by rw [ek]; simp
  have hkk := I.bk k (by rw [ek]; simp)
  refine ⟨fun e => by rw [e] at hoct; simp at hoct; omega, ?_⟩
  unfold wpop
  rw [ed]
  by_cases q : J = []
  · subst q
    rw [List.nil_append] at *
    have ec : closeP W.S k.b W.kept.length = { W.S with oct := W.S.oct.dropLast, rsa := pruneP k.b W.S.rsa, rsd := pruneP k.b W.S.rsd } := by
      unfold closeP; rw [if_pos hdep, if_pos (by omega)]
    rw [ec]
    have hr := P.run
    rw [cmdsT, trun_append] at hr
    cases e1 : trun t0 (cmdsT B) with
    | none => rw [e1] at hr; cases hr
    | some t1 =>
      rw [e1] at hr
      change some _ = some t at hr
      injection hr with hr
      subst hr
      have tk' : t1.kept ++ [(t1.h, t1.v)] = ks.map (fun k => (k.h, k.v)) ++ [(k.h, k.v)] := tk
      obtain ⟨z1, z2⟩ := List.append_inj' tk' rfl
      injection z2 with z2
      injection z2 with z2 z3
      refine ⟨B, t1, ?_⟩
      exact {
        pg := {
          oct := by
            show W.S.oct.dropLast = _
            rw [P.oct, octT_cons]
            show (octT B ++ [141]).dropLast = _
            simp
          ra := by show pruneP k.b W.S.rsa = _; rw [P.ra]; exact prune 0
          rd := by show pruneP k.b W.S.rsd = _; rw [P.rd]; exact prune 1
          val := hvB
          run := e1
          h := z2.symm
          v := z3.symm }
        sh := rfl
        sv := rfl
        tk := z1
        deep := I.deep
        dp := I.dp
        ta := I.ta
        td := I.td
        outs := I.outs
        ko := hkB
        na := trivial
        nd := trivial
        bl := by have := I.bl; omega
        bh := nat_up hkk.1
        bv := nat_up hkk.2
        bk := fun z hz => ⟨nat_up (I.bk z (by rw [ek]; exact List.mem_append_left _ hz)).1, nat_up (I.bk z (by rw [ek]; exact List.mem_append_left _ hz)).2⟩
        k4 := by have := I.k4; rw [ek] at this; simp at this; dsimp only; omega
        la := by simp
        ld := by simp
        rw := by have := I.rw; dsimp only; omega }
  · have hlt := lenT_lt q P.val
    have ec : closeP W.S k.b W.kept.length = { W.S with oct := W.S.oct ++ [142], rsa := pruneP k.b W.S.rsa, rsd := pruneP k.b W.S.rsd, deepest := if (W.kept.length : Int) > W.S.deepest then (W.kept.length : Int) else W.S.deepest } := by
      unfold closeP; rw [if_pos hdep, if_neg (by omega)]
    rw [ec]
    have hcm : cmdsT (.junk (.push :: (cmdsT J ++ [.pop])) :: B) = cmdsT (J ++ .push :: B) ++ [.pop] := by
      rw [cmdsT_append]; simp [cmdsT, cmdsI]
    have hoc : octT (.junk (.push :: (cmdsT J ++ [.pop])) :: B) = octT (J ++ .push :: B) ++ [142] := by
      unfold octT; rw [hcm, encs_append]; rfl
    have hlc : lenT (.junk (.push :: (cmdsT J ++ [.pop])) :: B) = lenT (J ++ .push :: B) + 1 := by unfold lenT; rw [hoc]; simp
    refine ⟨.junk (.push :: (cmdsT J ++ [.pop])) :: B, { t with h := k.h, v := k.v, kept := ks.map fun k => (k.h, k.v), deep := if (W.kept.length : Int) > W.S.deepest then (W.kept.length : Int) else W.S.deepest }, ?_⟩
    exact {
      pg := {
        oct := by show W.S.oct ++ [142] = _; rw [hoc, P.oct]
        ra := by show pruneP k.b W.S.rsa = _; rw [P.ra]; exact prune 0
        rd := by show pruneP k.b W.S.rsd = _; rw [P.rd]; exact prune 1
        val := ⟨JOk_box q hJ (valid_push P.val), hvB⟩
        run := by
          rw [hcm, trun_append, P.run]
          dsimp only [Option.bind]
          rw [trun_one]
          have htl : t.kept.length = W.kept.length := by rw [I.tk, List.length_map]
          have hgl : t.kept.getLast? = some (k.h, k.v) := by rw [tk]; simp
          have hdl : t.kept.dropLast = ks.map (fun k => (k.h, k.v)) := by rw [tk]; simp
          simp only [tstep]
          rw [hgl]
          dsimp only
          rw [hdl, htl, I.deep]
        h := rfl
        v := rfl }
      sh := rfl
      sv := rfl
      tk := rfl
      deep := rfl
      dp := by have := I.dp; dsimp only; split <;> omega
      ta := I.ta
      td := I.td
      outs := I.outs
      ko := hkB
      na := trivial
      nd := trivial
      bl := by rw [hlc]; have := I.bl; omega
      bh := nat_up hkk.1
      bv := nat_up hkk.2
      bk := fun z hz => ⟨nat_up (I.bk z (by rw [ek]; exact List.mem_append_left _ hz)).1, nat_up (I.bk z (by rw [ek]; exact List.mem_append_left _ hz)).2⟩
      k4 := by have := I.k4; rw [ek] at this; simp at this; dsimp only; omega
      la := by simp
      ld := by simp
      rw := by have := I.rw; dsimp only; omega }
theorem inv_idle {n : Nat} {W : WSt} {L : List Item} {t : TM} (I : Inv n W L t) : Inv (n + 1) W L t :=
  { I with
    bl := by have := I.bl; omega
    bh := nat_up I.bh
    bv := nat_up I.bv
    bk := fun z hz => ⟨nat_up (I.bk z hz).1, nat_up (I.bk z hz).2⟩
    la := by have := I.la; omega
    ld := by have := I.ld; omega
    rw := by have := I.rw; omega }
theorem natAbs_40 {a b : Int} {n : Nat} (hn : n ≤ 40) (h : a.natAbs ≤ 10000000 * n) (h' : b.natAbs ≤ 10000000) : (a + b).natAbs ≤ 1073741823 :=
  Nat.le_trans (Int.natAbs_add_le a b) (Nat.le_trans (Nat.add_le_add (Nat.le_trans h (Nat.mul_le_mul_left _ hn)) h') (by decide))
theorem inv_step {n : Nat} {W : WSt} {L : List Item} {t : TM} (I : Inv n W L t) (hn : n ≤ 40) {u : Trip} (hu : tripOk u) : WPre W u ∧ ∃ L' t', Inv (n + 1) (wstep W u) L' t' := by
  have hbl := I.bl
  have hbh := I.bh
  have hbv := I.bv
  obtain ⟨u1, u2⟩ := hu
  have hpre : WPre W u := {
    ok := I.pg.ok (by omega)
    ne := fun h => by
      cases e : W.kept.getLast? with
      | none => exact absurd (List.getLast?_eq_none_iff.mp e) h
      | some k => exact (inv_pop I e).1
    k4 := I.k4
    lla := by have := I.la; omega
    lld := by have := I.ld; omega
    rw := by have := I.rw; omega
    mark := fun _ => by
      obtain ⟨⟨g1, g2⟩, _⟩ := inv_mark I u1 u2 hn
      exact ⟨g1, g2, natAbs_40 hn hbh u1, natAbs_40 hn hbv u2⟩ }
  refine ⟨hpre, ?_⟩
  rcases wstep_all W u with ⟨h1, h2, e⟩ | ⟨h1, k, h2, e⟩ | ⟨h1, e⟩ | ⟨h1, h2, h3, e⟩
  · rw [e]; exact inv_push I h2
  · rw [e]; exact (inv_pop I h2).2
  · rw [e]; exact (inv_mark I u1 u2 hn).2
  · rw [e]; exact ⟨L, t, inv_idle I⟩
theorem inv_run : ∀ (us : List Trip) (n : Nat) (W : WSt) (L : List Item) (t : TM), Inv n W L t → n + us.length ≤ 40 → (∀ u ∈ us, tripOk u) → wgood W us ∧ ∃ L' t', Inv (n + us.length) (us.foldl wstep W) L' t' := by
  intro us
  induction us with
  | nil => intro n W L t I hn _; exact ⟨I.pg.ok (by have := I.bl; omega), L, t, I⟩
  | cons u us ih =>
    intro n W L t I hn hu
    simp only [List.length_cons] at hn
    obtain ⟨h1, L1, t1, I1⟩ := inv_step I (by omega) (hu u (.head _))
    obtain ⟨h2, L2, t2, I2⟩ := ih (n + 1) _ L1 t1 I1 (by omega) fun z hz => hu z (.tail _ hz)
    refine ⟨⟨h1, h2⟩, L2, t2, ?_⟩
    have e : n + (u :: us).length = n + 1 + us.length := by simp; omega
    rw [e]; exact I2
theorem kept_pop (W : WSt) : (wstep W ⟨2, 0, 0⟩).kept = W.kept.dropLast := by
  unfold wstep
  rw [if_neg (fun h => absurd (show (2 : Int) = 1 from h.1) (by decide)), if_pos rfl]
  cases e : W.kept.getLast? with
  | none => rw [List.getLast?_eq_none_iff.mp e]; rfl
  | some k => rfl
theorem kok_nil {L : List Item} : KOk L [] → ∀ it ∈ L, it ≠ .push := by
  induction L with
  | nil => intro _ it h; cases h
  | cons i L ih =>
    intro h it hi
    cases i with
    | push => exact h.elim
    | junk cs => cases hi with
      | head => intro q; cases q
      | tail _ hi => exact ih h it hi
    | row a s st ag => cases hi with
      | head => intro q; cases q
      | tail _ hi => exact ih h it hi
theorem plain_law {ts : List Trip} (h24 : ts.length = 24) (hok : ∀ t ∈ ts, tripOk t) : wgood W0 (ts ++ List.replicate 4 (Trip.mk 2 0 0)) ∧
    ∃ cs m, (wclose (wfin ts)).oct = encs cs ∧ (encs cs).length + 10 ≤ LIM ∧ cs.length + 10 < LIM ∧ crun mac0 cs = some m ∧ m.kept = [] ∧ m.deep = (wclose (wfin ts)).deepest ∧ OutsOk m.outs (wfin ts).rows ∧ (wfin ts).rows.length ≤ 100 := by
  obtain ⟨hg, L, t, I⟩ := inv_run (ts ++ List.replicate 4 (Trip.mk 2 0 0)) 0 W0 [] t0 inv0 (by simp [h24]) (fun u hu => by
    rcases List.mem_append.mp hu with q | q
    · exact hok u q
    · rw [List.eq_of_mem_replicate q]; exact ⟨by decide, by decide⟩)
  refine ⟨hg, ?_⟩
  have I : Inv 28 (wfin ts) L t := by
    have e : 0 + (ts ++ List.replicate 4 (Trip.mk 2 0 0)).length = 28 := by simp [h24]
    rw [e] at I; exact I
  have hke : (wfin ts).kept = [] := by
    obtain ⟨_, L', t', I'⟩ := inv_run ts 0 W0 [] t0 inv0 (by omega) hok
    have h4 := I'.k4
    unfold wfin
    rw [List.foldl_append]
    generalize ts.foldl wstep W0 = Wx at h4
    show (wstep (wstep (wstep (wstep Wx ⟨2, 0, 0⟩) ⟨2, 0, 0⟩) ⟨2, 0, 0⟩) ⟨2, 0, 0⟩).kept = []
    rw [kept_pop, kept_pop, kept_pop, kept_pop]
    refine List.length_eq_zero_iff.mp ?_
    simp only [List.length_dropLast]
    omega
  have hkt : t.kept = [] := by rw [I.tk, hke]; rfl
  have hb := I.bl
  obtain ⟨m, c1, R, _, _⟩ := run_inner [] L mac0 t0 t (by rw [List.append_nil]; exact I.pg.val) rel0 (fun a u x _ _ h => by cases h) I.pg.run
  have hmk : m.kept = [] := by
    have := R.kept
    rw [hkt] at this
    exact List.map_eq_nil_iff.mp this.symm
  have ec : (wclose (wfin ts)).oct = (wfin ts).S.oct ∧ (wclose (wfin ts)).deepest = (wfin ts).S.deepest := by
    unfold wclose closeP
    rw [if_neg (by decide)]
    exact ⟨rfl, rfl⟩
  have el : (encs (cmdsT L)).length = lenT L := rfl
  have := encs_len (cmdsT L)
  refine ⟨cmdsT L, m, by rw [ec.1, I.pg.oct]; rfl, by rw [el]; unfold LIM; omega, by unfold LIM; omega, c1, hmk, ?_, by rw [R.outs]; exact I.outs, by have := I.rw; omega⟩
  rw [R.deep, hmk, ec.2, I.deep]
  have := I.dp
  simp only [List.length_nil]
  rw [if_neg (by omega)]
end
section
set_option genSizeOf false
set_option genSizeOfSpec false
set_option maxRecDepth 100000
set_option autoImplicit false
/-! list comprehensions over ints -/
section
variable {h₀ h h' : Heap} {L : Addr} {ex : List (Addr × Obj)} {H : AHeap} {mm : Str → Option Value}
theorem RepN.newNe (R : RepN h₀ L h ex H) : ∃ news, News h₀ L h news ∧ ∀ l co o h', (∀ p ∈ news, p.1 ≠ l) → ORep co o → News h₀ L h' ((l, co) :: news) → RepN h₀ L h' ex (upd H l o) ∧ H l = none := by
  obtain ⟨news, N, hd, hH, hx⟩ := R
  refine ⟨news, N, fun l co o h' hl hr N' => ?_⟩
  have hn : H l = none := by
    cases q : H l with
    | none => rfl
    | some x => obtain ⟨c, hm, _⟩ := hH l x q; exact absurd rfl (hl _ hm)
  refine ⟨⟨_, N', ?_, fun b ob hb => ?_, fun p hp => ?_⟩, hn⟩
  · rw [List.map_cons, List.nodup_cons]
    refine ⟨fun hm => ?_, hd⟩
    obtain ⟨p, hp, e⟩ := List.mem_map.mp hm
    exact hl p hp e
  · by_cases q : b = l
    · subst q; rw [upd_self] at hb; cases hb; exact ⟨co, .head _, hr⟩
    · rw [upd_ne _ _ q] at hb
      obtain ⟨cb, hmb, hrb⟩ := hH b ob hb
      exact ⟨cb, .tail _ hmb, hrb⟩
  · obtain ⟨hp1, hp2⟩ := hx p hp
    exact ⟨.tail _ hp1, by rw [upd_ne _ _ (hl _ hp1)]; exact hp2⟩
/-- all but one fresh thing stays -/
theorem RepN.but {I : Addr} (R : RepN h₀ L h ex H) (hI : h.get? I = none) {h₂ : Heap} (hk : ∀ b o, b ∉ [I] → h.get? b = some o → h₂.get? b = some o) : RepN h₀ L h₂ ex H := by
  obtain ⟨news, N, hd, hH, hx⟩ := R
  refine ⟨news, fun p hp => ?_, hd, hH, hx⟩
  obtain ⟨a, b, c⟩ := N p hp
  exact ⟨hk _ _ (by simp; intro e; rw [e, hI] at a; cases a) a, b, c⟩
theorem Fr.but {I : Addr} (F : Fr h₀ L h mm) (hI : h.get? I = none) {h₂ : Heap} (hk : ∀ b o, b ∉ [I] → h.get? b = some o → h₂.get? b = some o) : Fr h₀ L h₂ mm := by
  have k : ∀ b o, h.get? b = some o → h₂.get? b = some o := fun b o e => hk b o (by simp; intro q; rw [q, hI] at e; cases e) e
  exact ⟨F.ns.at' fun o e => k _ o e, fun b o e => k b o (F.keep b o e), F.above⟩
end
theorem lk_relabel {env : Env} {k : NameKind} (hk : k ≠ .free) : ∀ {names : List (Str × NameKind)} {x : Str}, names.lookup x = some k →
    (names.map fun (n, k) => if (k == NameKind.free && env.scope.kind == .function && env.kindOf n == some .cell) then (n, NameKind.cell) else (n, k)).lookup x = some k
  | [], _, h => by simp at h
  | (n, j) :: r, x, h => by
    have ih := @lk_relabel env k hk r x
    show List.lookup x ((if (j == NameKind.free && env.scope.kind == .function && env.kindOf n == some .cell) = true then (n, NameKind.cell) else (n, j)) :: _) = _
    cases hx : x == n with
    | true =>
      simp only [List.lookup_cons, hx] at h
      injection h with h
      subst h
      rw [if_neg (by
        intro q
        simp only [Bool.and_eq_true] at q
        have : j = .free := by cases j <;> first | rfl | (exact absurd q.1.1 (by decide))
        exact hk this)]
      simp [List.lookup_cons, hx]
    | false =>
      simp only [List.lookup_cons, hx] at h
      by_cases hc : (j == NameKind.free && env.scope.kind == .function && env.kindOf n == some .cell) = true
      · rw [if_pos hc]; simp only [List.lookup_cons, hx]; exact ih h
      · rw [if_neg hc]; simp only [List.lookup_cons, hx]; exact ih h
theorem lk_free {env : Env} (hf : env.scope.kind = .function) : ∀ {names : List (Str × NameKind)} {x : Str}, env.kindOf x = some .cell → names.lookup x = some .free →
    (names.map fun (n, k) => if (k == NameKind.free && env.scope.kind == .function && env.kindOf n == some .cell) then (n, NameKind.cell) else (n, k)).lookup x = some .cell
  | [], _, _, h => by simp at h
  | (n, j) :: r, x, hc', h => by
    have ih := @lk_free env hf r x hc'
    show List.lookup x ((if (j == NameKind.free && env.scope.kind == .function && env.kindOf n == some .cell) = true then (n, NameKind.cell) else (n, j)) :: _) = _
    cases hx : x == n with
    | true =>
      have hxn : x = n := by simpa using hx
      simp only [List.lookup_cons, hx] at h
      injection h with h
      subst h
      rw [if_pos (by rw [hf, ← hxn, hc']; rfl)]
      simp [List.lookup_cons, hx]
    | false =>
      simp only [List.lookup_cons, hx] at h
      by_cases hc : (j == NameKind.free && env.scope.kind == .function && env.kindOf n == some .cell) = true
      · rw [if_pos hc]; simp only [List.lookup_cons, hx]; exact ih h
      · rw [if_neg hc]; simp only [List.lookup_cons, hx]; exact ih h
section
variable {V : Wd} {lv : Nat} {nm : Str} {sc : Scope} {nz : List Str}
noncomputable def EltOk (V : Wd) (lv : Nat) (nm : Str) (sc : Scope) (scope : Scope) (cl : List (Str × Addr)) (elt : Expr) (x : Str) (G : AHeap → (Int → Int) → Prop) : Prop :=
  ∀ (C : FC V lv nm sc) (H : AHeap) (g : Int → Int) (s : Shared) (ex : List (Addr × Obj)) (mm : Str → Option Value) (Cc : Addr) (m₃ : Str → Option Value) (i : Int) (t : Tok) (E : Value → Shared → Prop),
    G H g → Fr C.h₀ C.L s.heap mm → RepN C.h₀ C.L s.heap ex H → s.heap.Ns Cc m₃ → m₃ x = some (.int i t) →
    wpAny (model V.prog V.w) C.A (eval elt (compEnvC scope cl Cc C.env)) (fun y s' => (∃ t', y = .int (g i) t') ∧ Keeps s s') E s
noncomputable def mMap (m : ME) (G : AHeap → (Int → Int) → Prop) : ME := fun ρ H P => ∃ g, m ρ H fun v H => match v with
  | .ref l => ∃ xs, (H l = some (.list (intsV xs)) ∨ H l = some (.tup (intsV xs))) ∧ xs.length ≤ 1000 ∧ G H g ∧ newS (.list (intsV (xs.map g))) H P
  | _ => False
theorem paired_ints {g : Int → Int} : ∀ {vs ys : List Value} {xs : List Int}, Paired (fun v y => ∀ i t, v = .int i t → ∃ t', y = .int (g i) t') vs ys → VReps vs (intsV xs) → VReps ys (intsV (xs.map g)) := by
  intro vs ys xs h
  induction h generalizing xs with
  | nil =>
    intro r
    cases xs with
    | nil => exact .nil
    | cons x xs => cases r
  | cons h _ ih =>
    intro r
    cases xs with
    | nil => cases r
    | cons x xs =>
      cases r with | cons r1 r2 =>
      cases r1 with | int _ t =>
      obtain ⟨t', e⟩ := h x t rfl
      rw [e]
      exact .cons (.int _ _) (ih r2)
theorem sim_lc {elt iter : Expr} {x : Str} {px pos : Pos} {scope : Scope} {cl : List (Str × Addr)} {mi : ME} {G : AHeap → (Int → Int) → Prop} (hi : SimE V lv nm sc nz (eval iter) mi)
    (hclos : ∀ L a cd, closureFor scope (envX nm sc L a cd V.cl) = pure cl) (hcell : ∀ y ∈ scope.names, y.2 ≠ .cell) (hkind : scope.kind = .function)
    (hnames : ∀ y ∈ scope.names, y.2 = .local → scope.names.lookup y.1 = some .local) (hx : scope.names.lookup x = some .local) (hs : notSet iter = true) (he : EltOk V lv nm sc scope cl elt x G) :
    SimE V lv nm sc nz (eval (.ListComp elt [⟨.Name x px, iter, [], 0⟩] scope pos)) (mMap mi G) := by
  intro C ρ H P hm s ex mm Q E F LR R k
  unfold mMap at hm
  obtain ⟨g, hm⟩ := hm
  -- the walk over what stands at l
  have core : ∀ (H₁ : AHeap) (h₁ : Heap) (tk₁ : Nat) (items : List Value) (xs : List Int) (o : Obj) (fp : List Addr) (St : Nat → Heap → Prop), o.isFreed = false → Fr C.h₀ C.L h₁ mm → RepN C.h₀ C.L h₁ ex H₁ → VReps items (intsV xs) → xs.length ≤ 1000 → G H₁ g → newS (.list (intsV (xs.map g))) H₁ P →
      Walks V.prog V.w C.A h₁.objs.size fp [h₁.objs.size] items.toArray.size (fun i v => items.toArray[i]? = some v) St → St 0 (h₁.push o) → (∀ b ∈ fp, b < (h₁.push o).objs.size) →
      ∃ I fp wr n Pp St, Value.ref h₁.objs.size = .ref I ∧ Walks V.prog V.w C.A I fp wr n Pp St ∧ n ≤ sizeLine ∧ St 0 (h₁.push o) ∧ (∀ b ∈ fp, b < (h₁.push o).objs.size) ∧
      QuietOnC V.prog V.w C.A C.env scope cl x [] elt wr Pp (fun _ => true) (fun v y => ∀ i t, v = .int i t → ∃ t', y = .int (g i) t') { s with heap := h₁.push o, toks := tk₁ } ∧
      (∀ D h' tk ys (vs : List Value), (h₁.push o).get? D = none → h'.IsList D ys → h'.PlainList D ys → vs.length = n → (∀ j v, vs[j]? = some v → Pp j v) → Paired (fun v y => ∀ i t, v = .int i t → ∃ t', y = .int (g i) t') (vs.filter fun _ => true) ys.toList →
        (∀ b o', b ∉ wr → (h₁.push o).get? b = some o' → h'.get? b = some o') → Q (.ref D) { s with heap := h', toks := tk }) := by
    intro H₁ h₁ tk₁ items xs o fp St hfree F₁ R₁ rv hlen hg hP W hst hfp
    have hI : h₁.get? h₁.objs.size = none := by
      cases q : h₁.get? h₁.objs.size with
      | none => rfl
      | some o => exact absurd (Heap.lt_size q) (Nat.lt_irrefl _)
    have up : ∀ {h₂ : Heap}, (∀ b o', b ∉ [h₁.objs.size] → (h₁.push o).get? b = some o' → h₂.get? b = some o') → ∀ b o', b ∉ [h₁.objs.size] → h₁.get? b = some o' → h₂.get? b = some o' := fun hk b o' hb e => hk b o' hb (Heap.get?_push_of_some _ e)
    refine ⟨_, fp, _, _, _, St, rfl, W, ?_, hst, hfp, ⟨?_, ?_⟩, ?_⟩
    · rw [List.size_toArray, rv.length, intsV_length, sizeLine_eq]; omega
    · intro Cc i v s₃ m₃ E' _ _ _ _ _ _
      exact wpAny_tests_nil ⟨rfl, s₃.heap, s₃.toks, rfl, fun _ _ e => e⟩
    · intro Cc i v s₃ m₃ E' _ hPv _ hns hmx hkk _
      have hv : items[i]? = some v := by simpa using hPv
      obtain ⟨av, ha, rva⟩ := rv.get' hv
      unfold intsV at ha
      rw [List.getElem?_map] at ha
      cases e : xs[i]? with
      | none => rw [e] at ha; cases ha
      | some z =>
        rw [e] at ha
        cases ha
        cases rva with | int _ t =>
        refine wpAny_mono (he C H₁ g s₃ ex mm Cc m₃ z t E' hg (Fr.but F₁ hI (up hkk)) (R₁.but hI (up hkk)) hns hmx) (fun y s' hy => ?_) fun _ _ q => q
        refine ⟨fun i' t' q => ?_, hy.2⟩
        injection q with q1 q2
        rw [← q1]
        exact hy.1
    · intro D h' tk ys vs hD hl hpl hvl hvP hF hk
      have hvs : vs = items := by
        apply List.ext_getElem?
        intro j
        by_cases q : j < vs.length
        · have hj := List.getElem?_eq_getElem q
          have := hvP j _ hj
          rw [hj]
          simpa using this.symm
        · rw [List.getElem?_eq_none (by omega), List.getElem?_eq_none (by rw [hvl, List.size_toArray] at q; omega)]
      subst hvs
      rw [List.filter_eq_self.mpr (fun _ _ => rfl)] at hF
      have rys := paired_ints hF rv
      obtain ⟨n, hplain⟩ := hpl
      have R₂ := R₁.but hI (up hk)
      have F₂ := Fr.but F₁ hI (up hk)
      obtain ⟨news, N, hR⟩ := RepN.newNe R₁
      have hne : ∀ p ∈ news, p.1 ≠ D := fun p hp e => by
        have := Heap.get?_push_of_some o (N p hp).1
        rw [e, hD] at this; cases this
      have hD1 : h₁.get? D = none := by
        cases q : h₁.get? D with
        | none => rfl
        | some o' => have := Heap.get?_push_of_some o q; rw [hD] at this; cases this
      have eys : (⟨.type "list", none, .seq ys n, #[]⟩ : Obj) = listOf ys.toList.toArray n := by simp
      obtain ⟨R₃, hn⟩ := hR D (listOf ys.toList.toArray n) (.list (intsV (xs.map g))) h' hne (.list rys) (fun p hp => by
        rcases List.mem_cons.mp hp with rfl | hp
        · refine ⟨by rw [← eys]; exact hplain, fun e => ?_, ?_⟩
          · obtain ⟨oL, _, _, hL, _⟩ := F₁.ns
            dsimp only at e
            rw [← e, hD1] at hL; cases hL
          · cases q : C.h₀.get? D with
            | none => rfl
            | some o' => have := F₁.keep _ _ q; rw [hD1] at this; cases this
        · obtain ⟨a, b, c⟩ := N p hp
          exact ⟨up hk _ _ (by simp; intro e; rw [e, hI] at a; cases a) a, b, c⟩)
      exact k _ _ _ _ _ (.ref D) (hP D hn) F₂ R₃
  refine wpAny_ListComp_free (cl := cl) (fun _ => true) (fun v y => ∀ i t, v = .int i t → ∃ t', y = .int (g i) t') (hclos C.L C.a C.cd) hcell hkind hnames hx ?_ (fold_of hs _)
  refine hi C ρ H _ hm s ex mm _ E F LR R fun v av H₁ h₁ tk₁ rv hm₁ F₁ R₁ => ?_
  cases rv with
  | ref l =>
    obtain ⟨xs, hl, hlen, hg, hP⟩ := hm₁
    have hI : ∀ z, z = h₁.objs.size → h₁.get? z = none := fun z hz => by
      cases q : h₁.get? z with
      | none => rfl
      | some o => exact absurd (Heap.lt_size q) (by rw [hz]; exact Nat.lt_irrefl _)
    have sz : ∀ (o : Obj), (h₁.push o).objs.size = h₁.objs.size + 1 := fun o => Heap.size_push _ _
    rcases hl with hl | hl
    · obtain ⟨its, hL, rr⟩ := R₁.isList hl
      refine wpAny_pyIter_list (s := { s with heap := h₁, toks := tk₁ }) hL ?_
      obtain ⟨ol, hol, c1, c2⟩ := id hL
      have hne : l ≠ h₁.objs.size := fun e => by rw [hI l e] at hol; cases hol
      refine core H₁ h₁ tk₁ its xs { cls := .type "list_iterator", data := .fields #[.ref l, .int 0 0] } [h₁.objs.size, l] _ rfl F₁ R₁ rr hlen hg hP (Walks.list C.hh h₁.objs.size l hne its.toArray) ⟨⟨_, Heap.get?_push_size _ rfl, rfl, rfl⟩, ⟨ol, Heap.get?_push_of_some _ hol, c1, c2⟩⟩ (fun b hb => ?_)
      rw [sz]
      simp only [List.mem_cons, List.not_mem_nil, or_false] at hb
      rcases hb with rfl | rfl
      · exact Nat.lt_succ_self _
      · exact Nat.lt_succ_of_lt (Heap.lt_size hol)
    · obtain ⟨its, hL, rr⟩ := R₁.isTup hl
      refine wpAny_pyIter_tuple (s := { s with heap := h₁, toks := tk₁ }) (items := its.toArray) hL ?_
      obtain ⟨ol, hol, c1, c2⟩ := id hL
      have hne : l ≠ h₁.objs.size := fun e => by rw [hI l e] at hol; cases hol
      refine core H₁ h₁ tk₁ its xs { cls := .type "tuple_iterator", data := .fields #[.ref l, .int 0 0] } [h₁.objs.size, l] _ rfl F₁ R₁ rr hlen hg hP (Walks.tuple C.hh h₁.objs.size l hne its.toArray) ⟨⟨_, Heap.get?_push_size _ rfl, rfl, rfl⟩, ⟨ol, Heap.get?_push_of_some _ hol, c1, c2⟩⟩ (fun b hb => ?_)
      rw [sz]
      simp only [List.mem_cons, List.not_mem_nil, or_false] at hb
      rcases hb with rfl | rfl
      · exact Nat.lt_succ_self _
      · exact Nat.lt_succ_of_lt (Heap.lt_size hol)
  | _ => exact hm₁.elim
end
end
section
set_option genSizeOf false
set_option genSizeOfSpec false
set_option maxRecDepth 100000
set_option autoImplicit false
section
variable {V : Wd} {lv : Nat} {nm : Str} {sc : Scope} {scope : Scope} {cl : List (Str × Addr)}
theorem lc_built {C : FC V lv nm sc} {s : Shared} {mm : Str → Option Value} {Cc : Addr} {x : Str} {pos : Pos} {v : Value} {Q E : Value → Shared → Prop} (F : Fr C.h₀ C.L s.heap mm) (e : nsIn V.K mainGlobals x = some none) (hv : bootBuiltins x = some v) (hn : x ≠ "__name__")
    (hk : scope.kind = .function) (hx : scope.names.lookup x = some .globalImplicit) (hd : (x == ("__debug__" : Str)) = false) (h : Q v s) :
    wpAny (model V.prog V.w) C.A (eval (.Name x pos) (compEnvC scope cl Cc C.env)) Q E s :=
  Calls.Name_function_global (env := compEnvC scope cl Cc C.env) hk (lk_relabel (env := C.env) (by decide) hx) (Calls.loadGlobal_builtin (env := compEnvC scope cl Cc C.env) (show s.heap.Ns C.env.globals V.mg from (C.T.keeps F.keep).g) (mg_none_of C.X C.T.g e) (show s.heap.Ns C.env.builtins V.mb from (C.T.keeps F.keep).b) ((C.T.builtins x hn).trans hv) h) hd
theorem lc_own {C : FC V lv nm sc} {s : Shared} {Cc : Addr} {x : Str} {pos : Pos} {v : Value} {m₃ : Str → Option Value} {Q E : Value → Shared → Prop} (N : s.heap.Ns Cc m₃) (hv : m₃ x = some v)
    (hk : scope.kind = .function) (hx : scope.names.lookup x = some .local) (hd : (x == ("__debug__" : Str)) = false) (h : Q v s) :
    wpAny (model V.prog V.w) C.A (eval (.Name x pos) (compEnvC scope cl Cc C.env)) Q E s :=
  wpAny_Name (wpAny_loadName_local (env := compEnvC scope cl Cc C.env) hk (lk_relabel (env := C.env) (by decide) hx) N hv h) hd
theorem lc_cell {C : FC V lv nm sc} {s : Shared} {ex : List (Addr × Obj)} {H : AHeap} {Cc c : Addr} {x : Str} {pos : Pos} {av : AV} {Q E : Value → Shared → Prop} (R : RepN C.h₀ C.L s.heap ex H) (hc : cl.lookup x = some c) (hH : H c = some (.cell av))
    (hks : sc.kind = .function) (hsc : sc.names.lookup x = some .cell) (hk : scope.kind = .function) (hx : scope.names.lookup x = some .free) (hd : (x == ("__debug__" : Str)) = false) (h : ∀ v, VRep v av → Q v s) :
    wpAny (model V.prog V.w) C.A (eval (.Name x pos) (compEnvC scope cl Cc C.env)) Q E s := by
  obtain ⟨co, hg, r⟩ := R.get hH
  cases r with
  | cell h1 h2 h3 => exact wpAny_Name (wpAny_loadName_cell (env := compEnvC scope cl Cc C.env) hk (lk_free (env := C.env) hks hsc hx) hc ⟨co, hg, h1⟩ (h _ h3)) hd
theorem elt_box (b_abs : GBi V "abs" (.builtin "abs")) (b_int : GBi V "int" (.type "int")) {p1 p2 p3 p4 p5 : Pos} (hk : scope.kind = .function) (h1 : scope.names.lookup ("abs" : Str) = some .globalImplicit) (h2 : scope.names.lookup ("int" : Str) = some .globalImplicit) (h3 : scope.names.lookup ("other" : Str) = some .local) :
    EltOk V lv nm sc scope cl (.Call (.Name "abs" p1) [.Call (.Name "int" p2) [.Name "other" p3] [] p4] [] p5) "other" (fun _ g => g = fun i => if i < 0 then -i else i) := by
  intro C H g s ex mm Cc m₃ i t E hg F R N hm
  subst hg
  obtain ⟨a1, a2, a3, _⟩ := b_abs
  obtain ⟨i1, i2, i3, _⟩ := b_int
  refine Call_ (lc_built F a1 a2 a3 hk h1 (by decide) ?_)
  refine callWith_builtin1 ?_ rfl rfl
  refine spliced_more ?_ rfl
  refine Call_ (lc_built F i1 i2 i3 hk h2 (by decide) ?_)
  refine Pv.callWith_type1 ?_ rfl rfl
  refine spliced_more (lc_own N hm hk h3 (by decide) ?_) rfl
  refine spliced_none ?_
  refine PySem.call_int_int ?_
  refine spliced_none ?_
  exact call_abs_int fun u tk => ⟨⟨_, rfl⟩, s.heap, tk, rfl, fun _ _ e => e⟩
theorem elt_cost {c : Addr} (b_abs : GBi V "abs" (.builtin "abs")) (b_int : GBi V "int" (.type "int")) {p1 p2 p3 p4 p5 p6 p7 : Pos} (hks : sc.kind = .function) (hsc : sc.names.lookup ("size" : Str) = some .cell) (hk : scope.kind = .function) (h1 : scope.names.lookup ("abs" : Str) = some .globalImplicit) (h2 : scope.names.lookup ("int" : Str) = some .globalImplicit) (h3 : scope.names.lookup ("bound" : Str) = some .local) (h4 : scope.names.lookup ("size" : Str) = some .free) :
    EltOk V (lv + 7) nm sc scope [("size", c)] (.Call (.Name "int" p1) [.Compare (.Call (.Name "abs" p2) [.Name "size" p3] [] p4) [.GtE] [.Name "bound" p5] p6] [] p7) "bound" (fun H g => ∃ z : Int, H c = some (.cell (.int z)) ∧ g = fun b => if b ≤ (if z < 0 then -z else z) then 1 else 0) := by
  intro C H g s ex mm Cc m₃ i t E hg F R N hm
  obtain ⟨z, hz, rfl⟩ := hg
  obtain ⟨a1, a2, a3, _⟩ := b_abs
  obtain ⟨i1, i2, i3, _⟩ := b_int
  refine Call_ (lc_built F i1 i2 i3 hk h2 (by decide) ?_)
  refine Pv.callWith_type1 ?_ rfl rfl
  refine spliced_more ?_ rfl
  refine wpAny_Compare1 ?_ rfl
  refine Call_ (lc_built F a1 a2 a3 hk h1 (by decide) ?_)
  refine callWith_builtin1 ?_ rfl rfl
  refine spliced_more (lc_cell (c := c) R rfl hz hks hsc hk h4 (by decide) fun v rv => ?_) rfl
  cases rv with | int _ t' =>
  refine spliced_none ?_
  refine call_abs_int fun u tk => ?_
  refine lc_own (s := { s with toks := tk }) N hm hk h3 (by decide) ?_
  refine cmpS_ok (C := C) (s := { s with toks := tk }) (op := .GtE) (P := fun b _ => b = decide (i ≤ if z < 0 then -z else z)) C.units (.int _ _) (.int _ _) R ?_ fun b hb => ?_
  · rfl
  refine spliced_none ?_
  refine PySem.call_int_bool ?_
  subst hb
  refine ⟨?_, s.heap, _, rfl, fun _ _ e => e⟩
  by_cases q : i ≤ (if z < 0 then -z else z)
  · simp only [q, decide_true, if_true]
    exact ⟨_, rfl⟩
  · simp only [q, decide_false, if_false]
    exact ⟨_, rfl⟩
end
end
section
set_option genSizeOf false
set_option genSizeOfSpec false
set_option maxRecDepth 100000
set_option autoImplicit false
section
variable {V : Wd} {lv : Nat} {nm : Str} {sc : Scope} {nz : List Str}
noncomputable def mCell (c : Addr) : ME := fun _ H P => ∃ v, H c = some (.cell v) ∧ P v H
theorem xCell {c : Addr} {x : Str} {pos : Pos} (hc : V.cl.lookup x = some c) (hk : sc.kind = .function) (hl : sc.names.lookup x = some .cell) (hd : (x == ("__debug__" : Str)) = false) : SimE V lv nm sc nz (eval (.Name x pos)) (mCell c) := by
  intro C ρ H P hm s ex mm Q E F LR R k
  obtain ⟨av, hH, hP⟩ := hm
  obtain ⟨co, hg, r⟩ := R.get hH
  cases r with
  | cell h1 h2 h3 => exact wpAny_Name (wpAny_loadName_cell (env := C.env) hk hl hc ⟨co, hg, h1⟩ (k _ _ H s.heap s.toks h3 hP F R)) hd
noncomputable def Gbox (_ : AHeap) (g : Int → Int) : Prop := g = fun i => if i < 0 then -i else i
noncomputable def Gcost (c : Addr) (H : AHeap) (g : Int → Int) : Prop := ∃ z : Int, H c = some (.cell (.int z)) ∧ g = fun b => if b ≤ (if z < 0 then -z else z) then 1 else 0
theorem xLCbox (b_abs : GBi V "abs" (.builtin "abs")) (b_int : GBi V "int" (.type "int")) {iter : Expr} {px pos p1 p2 p3 p4 p5 : Pos} {scope : Scope} {mi : ME} (hi : SimE V lv nm sc nz (eval iter) mi) (hs : notSet iter = true)
    (hclos : ∀ L a cd, closureFor scope (envX nm sc L a cd V.cl) = pure []) (hcell : ∀ y ∈ scope.names, y.2 ≠ .cell) (hkind : scope.kind = .function) (hnames : ∀ y ∈ scope.names, y.2 = .local → scope.names.lookup y.1 = some .local)
    (h1 : scope.names.lookup ("abs" : Str) = some .globalImplicit) (h2 : scope.names.lookup ("int" : Str) = some .globalImplicit) (h3 : scope.names.lookup ("other" : Str) = some .local) :
    SimE V lv nm sc nz (eval (.ListComp (.Call (.Name "abs" p1) [.Call (.Name "int" p2) [.Name "other" p3] [] p4] [] p5) [⟨.Name "other" px, iter, [], 0⟩] scope pos)) (mMap mi Gbox) :=
  sim_lc hi hclos hcell hkind hnames h3 hs (elt_box b_abs b_int hkind h1 h2 h3)
theorem xLCcost {c : Addr} (b_abs : GBi V "abs" (.builtin "abs")) (b_int : GBi V "int" (.type "int")) {iter : Expr} {px pos p1 p2 p3 p4 p5 p6 p7 : Pos} {scope : Scope} {mi : ME} (hi : SimE V (lv + 7) nm sc nz (eval iter) mi) (hs : notSet iter = true)
    (hclos : ∀ L a cd, closureFor scope (envX nm sc L a cd V.cl) = (pure [(("size" : Str), c)] : Sem (List (Str × Addr)))) (hcell : ∀ y ∈ scope.names, y.2 ≠ .cell) (hkind : scope.kind = .function) (hnames : ∀ y ∈ scope.names, y.2 = .local → scope.names.lookup y.1 = some .local)
    (hks : sc.kind = .function) (hsc : sc.names.lookup ("size" : Str) = some .cell)
    (h1 : scope.names.lookup ("abs" : Str) = some .globalImplicit) (h2 : scope.names.lookup ("int" : Str) = some .globalImplicit) (h3 : scope.names.lookup ("bound" : Str) = some .local) (h4 : scope.names.lookup ("size" : Str) = some .free) :
    SimE V (lv + 7) nm sc nz (eval (.ListComp (.Call (.Name "int" p1) [.Compare (.Call (.Name "abs" p2) [.Name "size" p3] [] p4) [.GtE] [.Name "bound" p5] p6] [] p7) [⟨.Name "bound" px, iter, [], 0⟩] scope pos)) (mMap mi (Gcost c)) :=
  sim_lc hi hclos hcell hkind hnames h3 hs (elt_cost b_abs b_int hks hsc hkind h1 h2 h3 h4)
/-- the script's first four -/
noncomputable def mScr (l : Addr) (ns : List Int) : ME := fun ρ H P => ρ[0]? = some (some (.ref l)) ∧ newS (.list (intsV (ns.take 4))) H P
theorem xScr {l : Addr} {vs : List Value} {ns : List Int} (hb : V.base.IsList l vs.toArray) (hI : IntsAre vs ns) (hz : ns.length ≤ 63) {p p0 p1 pos : Pos} {j : Nat} (h0 : nz[0]? = some ("script" : Str)) (hk : sc.kind = .function) (hl : sc.names.lookup ("script" : Str) = some .local) :
    SimE V lv nm sc nz (eval (.Subscript (.Name "script" p0) (.Slice none (some (.Constant (.int 4) j p1)) none p) pos)) (mScr l ns) := by
  intro C ρ H P hm s ex mm Q E F LR R k
  obtain ⟨hρ, hP⟩ := hm
  obtain ⟨cv, g1, g2⟩ := LR.at_ 0 _ _ h0 hρ
  cases g2
  refine Subscript_ (nameX_L F g1 ?_ hk hl (by decide))
  rw [arm_eval_Slice]
  refine wpAny_bind (wpAny_pure ?_)
  refine wpAny_bind (wpAny_holding ?_)
  rw [valueOrNone_some]
  refine sim_int (nz := nz) C ρ H (fun v H' => v = .int 4 ∧ H' = H) ⟨rfl, rfl⟩ s ex mm _ E F LR R fun u au H₃ h₃ tk₃ ru hm₃ F₃ R₃ => ?_
  obtain ⟨rfl, rfl⟩ := hm₃
  cases ru with | int _ t4 =>
  refine wpAny_bind (wpAny_holding (wpAny_pure ?_))
  refine wpAny_newObj_type ?_
  have hL : (h₃.push { cls := .type "slice", data := .fields [Value.none, Value.int 4 t4, Value.none].toArray }).IsList l vs.toArray := by
    obtain ⟨ol, hol, c1, c2⟩ := hb
    exact ⟨ol, Heap.get?_push_of_some _ (F₃.keep _ _ (C.B.stays _ _ hol)), c1, c2⟩
  have F₁ := F₃.push { cls := .type "slice", data := .fields [Value.none, Value.int 4 t4, Value.none].toArray }
  have R₁ := R₃.push (o := { cls := .type "slice", data := .fields [Value.none, Value.int 4 t4, Value.none].toArray })
  have rv : VReps vs (intsV ns) := VReps.of_ints hI
  have hlen : vs.length = ns.length := by rw [rv.length, intsV_length]
  obtain ⟨ops, hs⟩ := subscripted_ops (.Slice none (some (.Constant (.int 4) j p1)) none p) (.ref l) (.ref h₃.objs.size)
  obtain ⟨e, rp⟩ := pickL_rep rv none (some 4)
  have ep : pickL (intsV ns) none (some 4) = intsV (ns.take 4) := by
    unfold pickL
    simp only [Option.elim, List.drop_zero, Nat.sub_zero]
    rw [intsV_length, show clipAt ns.length 4 = min 4 ns.length from clip_nn _ 4]
    unfold intsV
    rw [← List.map_take, ← List.take_eq_take_min]
  refine tail_any (s := { s with heap := h₃.push _, toks := tk₃ }) hL.typeIs list_getitem_lookup (wpAny_getItem_list_slice hL (Heap.IsSliceOf.new ..) .none (.int 4 t4) .none (by simp) ?_ (by rw [List.size_toArray, hlen, sizeLine_eq]; omega)) hs
  obtain ⟨R₂, hn⟩ := RepN.pushNew F₁ R₁ (o := PySem.W.listOf (slicePick vs.toArray none (some 4) none) 0) (ao := .list (pickL (intsV ns) none (some 4))) (by rw [e]; exact .list rp)
  rw [ep] at R₂
  exact k _ _ _ _ _ (.ref _) (hP _ hn) (F₁.push _) R₂
end
end
section
set_option genSizeOf false
set_option genSizeOfSpec false
set_option maxRecDepth 100000
set_option maxHeartbeats 1000000
theorem xOr {V : Wd} {lv : Nat} {nm : Str} {sc : Scope} {nz : List Str} {a b : Expr} {pos : Pos} {m₁ m₂ : ME} (h₁ : SimE V lv nm sc nz (eval a) m₁) (h₂ : SimE V lv nm sc nz (eval b) m₂) : SimE V lv nm sc nz (eval (.BoolOp .Or [a, b] pos)) (mOr m₁ m₂) := sim_or h₁ h₂
noncomputable def nz_law_box : List Str := ["script", "k", "cell"]
theorem nd_law_box : nz_law_box.Nodup := by decide
noncomputable def m_law_box (D : Ad) : MS := (sSeq (sIf (tCmp .Lt (mLoc 1) (mCall lenS (aCons (mLoc 0) aNil)))
  (sSeq (sAssign (tName 2) (mCall absS (aCons (mCall intS (aCons (mSub (mLoc 0) (mLoc 1)) aNil)) aNil)))
  sNil)
  (sSeq (sAssign (tName 2) (mBin .Add (mBin .Add (mBin .Mult (mConst (.int 7919)) (mLoc 1)) (mConst (.int 20011))) (mBin .Mod (mCall sumS (aCons (mMap (mLoc 0) Gbox) aNil)) (mConst (.int 99991)))))
  sNil))
  (sSeq (sRet (mList (aCons (mLoc 2) (aCons (mConst (.int 0)) (aCons (mBin .Mod (mLoc 2) (mConst (.int 1000003))) aNil)))))
  sNil))
theorem s_law_box {V : Wd} {D : Ad} (W : Wb V D) (b_sum : GBi V "sum" (.builtin "sum"))   : SimS V 8 "_law_box" (fdScope (top 20)) nz_law_box (execs (fdBody (top 20))) (m_law_box D) := by
  have hnd := nd_law_box
  obtain ⟨sc, hsc⟩ : ∃ sc, sc = fdScope (top 20) := ⟨_, rfl⟩
  rw [← hsc]
  have hk : sc.kind = .function := by rw [hsc]; rfl
  have l_k : sc.names.lookup ("k" : Str) = some .local := by rw [hsc]; rfl
  have l_script : sc.names.lookup ("script" : Str) = some .local := by rw [hsc]; rfl
  have l_len : sc.names.lookup ("len" : Str) = some .globalImplicit := by rw [hsc]; rfl
  have l_int : sc.names.lookup ("int" : Str) = some .globalImplicit := by rw [hsc]; rfl
  have l_abs : sc.names.lookup ("abs" : Str) = some .globalImplicit := by rw [hsc]; rfl
  have l_cell : sc.names.lookup ("cell" : Str) = some .local := by rw [hsc]; rfl
  have l_sum : sc.names.lookup ("sum" : Str) = some .globalImplicit := by rw [hsc]; rfl
  refine sims_cons ?_ ?_
  · refine sims_if ?_ ?_ ?_
    · refine tCmp_ ?_ ?_ ?_
      · refine xL 1 ?_ hk l_k ?_ <;> rfl
      · refine xBi bok_len W.b_len ?_ hk l_len ?_ ?_
        · refine lCons ?_ ?_
          · refine xL 0 ?_ hk l_script ?_ <;> rfl
          exact lNil
        · rfl
        rfl
      rfl
    · refine sims_cons ?_ ?_
      · refine pAsg ?_ ?_ ?_ ?_ ?_
        · refine xBi bok_abs W.b_abs ?_ hk l_abs ?_ ?_
          · refine lCons ?_ ?_
            · refine xBi bok_int W.b_int ?_ hk l_int ?_ ?_
              · refine lCons ?_ ?_
                · refine sim_sub ?_ ?_
                  · refine xL 0 ?_ hk l_script ?_ <;> rfl
                  refine xL 1 ?_ hk l_k ?_ <;> rfl
                exact lNil
              · rfl
              rfl
            exact lNil
          · rfl
          rfl
        · refine gName 2 ?_ hnd hk l_cell <;> rfl
        · rfl
        · rfl
        rfl
      exact sims_nil
    refine sims_cons ?_ ?_
    · refine pAsg ?_ ?_ ?_ ?_ ?_
      · refine sim_bin ?_ ?_
        · refine sim_bin ?_ ?_
          · refine sim_bin ?_ ?_
            · exact sim_int
            refine xL 1 ?_ hk l_k ?_ <;> rfl
          exact sim_int
        refine sim_bin ?_ ?_
        · refine xBi bok_sum b_sum ?_ hk l_sum ?_ ?_
          · refine lCons ?_ ?_
            · refine xLCbox W.b_abs W.b_int ?_ ?_ ?_ ?_ ?_ ?_ ?_ ?_ ?_
              · refine xL 0 ?_ hk l_script ?_ <;> rfl
              · rfl
              · intro L a cd; rfl
              · decide
              · rfl
              · decide
              · rfl
              · rfl
              rfl
            exact lNil
          · rfl
          rfl
        exact sim_int
      · refine gName 2 ?_ hnd hk l_cell <;> rfl
      · rfl
      · rfl
      rfl
    exact sims_nil
  refine sims_cons ?_ ?_
  · refine sims_ret ?_
    refine xList ?_ ?_
    · refine lCons ?_ ?_
      · refine xL 2 ?_ hk l_cell ?_ <;> rfl
      refine lCons ?_ ?_
      · exact sim_int
      refine lCons ?_ ?_
      · refine sim_bin ?_ ?_
        · refine xL 2 ?_ hk l_cell ?_ <;> rfl
        exact sim_int
      exact lNil
    rfl
  exact sims_nil
noncomputable def nz_law_cost : List Str := ["took", "near"]
theorem nd_law_cost : nz_law_cost.Nodup := by decide
noncomputable def m_law_cost (D : Ad) (c : Addr) : MS := (sSeq (sIf (tOr (tCmp .Eq (mCell c) (mConst (.int 0))) (tOr (tVal (mLoc 1)) tFalse))
  (sSeq (sRet (mCmp .Eq (mLoc 0) (mCall intS (aCons (mCmp .NotEq (mCell c) (mConst (.int 0))) aNil))))
  sNil)
  sNil)
  (sSeq (sRet (mOr (mCmp .Eq (mLoc 0) (mConst (.int 1))) (mCmp .Eq (mLoc 0) (mBin .Add (mConst (.int 2)) (mCall sumS (aCons (mMap (mTup (aCons (mConst (.int 128)) (aCons (mConst (.int 32768)) (aCons (mConst (.int 8388608)) aNil)))) (Gcost c)) aNil))))))
  sNil))
theorem s_law_cost {V : Wd} {D : Ad} (W : Wb V D) (b_sum : GBi V "sum" (.builtin "sum")) {c : Addr} (hcl : V.cl = [(("size" : Str), c)])  : SimS V 8 "_law_cost" (fdScope (top 27)) nz_law_cost (execs (fdBody (top 27))) (m_law_cost D c) := by
  have hnd := nd_law_cost
  obtain ⟨sc, hsc⟩ : ∃ sc, sc = fdScope (top 27) := ⟨_, rfl⟩
  rw [← hsc]
  have hk : sc.kind = .function := by rw [hsc]; rfl
  have l_near : sc.names.lookup ("near" : Str) = some .local := by rw [hsc]; rfl
  have l_size : sc.names.lookup ("size" : Str) = some .cell := by rw [hsc]; rfl
  have l_took : sc.names.lookup ("took" : Str) = some .local := by rw [hsc]; rfl
  have l_int : sc.names.lookup ("int" : Str) = some .globalImplicit := by rw [hsc]; rfl
  have l_sum : sc.names.lookup ("sum" : Str) = some .globalImplicit := by rw [hsc]; rfl
  refine sims_cons ?_ ?_
  · refine sims_if ?_ ?_ ?_
    · refine simc_or ?_ ?_
      · refine tCmp_ ?_ ?_ ?_
        · refine xCell ?_ hk l_size ?_
          · rw [hcl]; rfl
          rfl
        · exact sim_int
        rfl
      refine simc_or ?_ ?_
      · refine tVal_ ?_ ?_
        · refine xL 1 ?_ hk l_near ?_ <;> rfl
        rfl
      exact simc_or_nil
    · refine sims_cons ?_ ?_
      · refine sims_ret ?_
        refine xCmp ?_ ?_ ?_
        · refine xL 0 ?_ hk l_took ?_ <;> rfl
        · refine xBi bok_int W.b_int ?_ hk l_int ?_ ?_
          · refine lCons ?_ ?_
            · refine xCmp ?_ ?_ ?_
              · refine xCell ?_ hk l_size ?_
                · rw [hcl]; rfl
                rfl
              · exact sim_int
              rfl
            exact lNil
          · rfl
          rfl
        rfl
      exact sims_nil
    exact sims_nil
  refine sims_cons ?_ ?_
  · refine sims_ret ?_
    refine xOr ?_ ?_
    · refine xCmp ?_ ?_ ?_
      · refine xL 0 ?_ hk l_took ?_ <;> rfl
      · exact sim_int
      rfl
    refine xCmp ?_ ?_ ?_
    · refine xL 0 ?_ hk l_took ?_ <;> rfl
    · refine sim_bin ?_ ?_
      · exact sim_int
      refine xBi bok_sum b_sum ?_ hk l_sum ?_ ?_
      · refine lCons ?_ ?_
        · refine xLCcost W.b_abs W.b_int ?_ ?_ ?_ ?_ ?_ ?_ hk l_size ?_ ?_ ?_ ?_
          · refine xTup ?_ ?_
            · refine lCons ?_ ?_
              · exact sim_int
              refine lCons ?_ ?_
              · exact sim_int
              refine lCons ?_ ?_
              · exact sim_int
              exact lNil
            rfl
          · rfl
          · intro L a cd; rw [hcl]; rfl
          · decide
          · rfl
          · decide
          · rfl
          · rfl
          · rfl
          rfl
        exact lNil
      · rfl
      rfl
    rfl
  exact sims_nil
noncomputable def nz_law : List Str := ["script", "told", "k", "page", "rows", "h", "v", "aside", "down", "near_aside", "near_down", "mark", "seen_h", "seen_v", "took_aside", "took_down"]
theorem nd_law : nz_law.Nodup := by decide
noncomputable def m_law (D : Ad) (l : Addr) (ns : List Int) : MS := (sSeq (sAssign (tTup [(tName 3), (tName 4)]) (mCall D.law_writtenS (aCons (mCall D.law_stepsS (aCons (mScr l ns) aNil)) aNil)))
  (sSeq (sAssign (tName 1) (mCall D.law_runS (aCons (mAttr D.cP "octets" (mLoc 3)) aNil)))
  (sSeq (sIf (tOr (tCmp .Is (mLoc 1) (mConst .none)) (tOr (tCmp .NotEq (mSub (mLoc 1) (mConst (.int 1))) (mAttr D.cP "deepest" (mLoc 3))) (tOr (tCmp .NotEq (mCall lenS (aCons (mSub (mLoc 1) (mConst (.int 0))) aNil)) (mCall lenS (aCons (mLoc 4) aNil))) tFalse)))
  (sSeq (sRet (mConst (.bool false)))
  sNil)
  sNil)
  (sSeq (sForR (tName 2) (aCons (mCall lenS (aCons (mLoc 4) aNil)) aNil)
  (sSeq (sAssign (tTup [(tName 5), (tName 6), (tName 7), (tName 8), (tName 9), (tName 10)]) (mSub (mLoc 4) (mLoc 2)))
  (sSeq (sAssign (tTup [(tName 11), (tName 12), (tName 13), (tName 14), (tName 15)]) (mSub (mSub (mLoc 1) (mConst (.int 0))) (mLoc 2)))
  (sSeq (sIf (tCmp .NotEq (mTup (aCons (mLoc 11) (aCons (mLoc 12) (aCons (mLoc 13) aNil)))) (mTup (aCons (mLoc 2) (aCons (mLoc 5) (aCons (mLoc 6) aNil)))))
  (sSeq (sRet (mConst (.bool false)))
  sNil)
  sNil)
  (sSeq (sIf (tOr (tNot (tVal (mCall D.law_costS (aCons (mLoc 7) (aCons (mLoc 14) (aCons (mLoc 9) aNil)))))) (tOr (tNot (tVal (mCall D.law_costS (aCons (mLoc 8) (aCons (mLoc 15) (aCons (mLoc 10) aNil)))))) tFalse))
  (sSeq (sRet (mConst (.bool false)))
  sNil)
  sNil)
  sNil)))))
  (sSeq (sRet (mConst (.bool true)))
  sNil)))))
theorem s_law {V : Wd} {D : Ad} (W : Wb V D)  {l : Addr} {vs : List Value} {ns : List Int} (hb : V.base.IsList l vs.toArray) (hI : IntsAre vs ns) (hz : ns.length ≤ 63) (f__law_steps : GFn V 13 "_law_steps" D.law_stepsS) (f__law_written : GFn V 13 "_law_written" D.law_writtenS) (f__law_run : GFn V 13 "_law_run" D.law_runS) (f__law_cost : GFn V 13 "_law_cost" D.law_costS) : SimS V 14 "law" (fdScope (top 28)) nz_law (execs (fdBody (top 28))) (m_law D l ns) := by
  have hnd := nd_law
  obtain ⟨sc, hsc⟩ : ∃ sc, sc = fdScope (top 28) := ⟨_, rfl⟩
  rw [← hsc]
  have hk : sc.kind = .function := by rw [hsc]; rfl
  have l_script : sc.names.lookup ("script" : Str) = some .local := by rw [hsc]; rfl
  have l__law_steps : sc.names.lookup ("_law_steps" : Str) = some .globalImplicit := by rw [hsc]; rfl
  have l__law_written : sc.names.lookup ("_law_written" : Str) = some .globalImplicit := by rw [hsc]; rfl
  have l_rows : sc.names.lookup ("rows" : Str) = some .local := by rw [hsc]; rfl
  have l_page : sc.names.lookup ("page" : Str) = some .local := by rw [hsc]; rfl
  have l__law_run : sc.names.lookup ("_law_run" : Str) = some .globalImplicit := by rw [hsc]; rfl
  have l_told : sc.names.lookup ("told" : Str) = some .local := by rw [hsc]; rfl
  have l_len : sc.names.lookup ("len" : Str) = some .globalImplicit := by rw [hsc]; rfl
  have l_k : sc.names.lookup ("k" : Str) = some .local := by rw [hsc]; rfl
  have l_near_down : sc.names.lookup ("near_down" : Str) = some .local := by rw [hsc]; rfl
  have l_near_aside : sc.names.lookup ("near_aside" : Str) = some .local := by rw [hsc]; rfl
  have l_down : sc.names.lookup ("down" : Str) = some .local := by rw [hsc]; rfl
  have l_aside : sc.names.lookup ("aside" : Str) = some .local := by rw [hsc]; rfl
  have l_v : sc.names.lookup ("v" : Str) = some .local := by rw [hsc]; rfl
  have l_h : sc.names.lookup ("h" : Str) = some .local := by rw [hsc]; rfl
  have l_took_down : sc.names.lookup ("took_down" : Str) = some .local := by rw [hsc]; rfl
  have l_took_aside : sc.names.lookup ("took_aside" : Str) = some .local := by rw [hsc]; rfl
  have l_seen_v : sc.names.lookup ("seen_v" : Str) = some .local := by rw [hsc]; rfl
  have l_seen_h : sc.names.lookup ("seen_h" : Str) = some .local := by rw [hsc]; rfl
  have l_mark : sc.names.lookup ("mark" : Str) = some .local := by rw [hsc]; rfl
  have l__law_cost : sc.names.lookup ("_law_cost" : Str) = some .globalImplicit := by rw [hsc]; rfl
  have l_range : sc.names.lookup ("range" : Str) = some .globalImplicit := by rw [hsc]; rfl
  refine sims_cons ?_ ?_
  · refine pAsg ?_ ?_ ?_ ?_ ?_
    · refine xCall f__law_written ?_ hk l__law_written ?_ ?_
      · refine lCons ?_ ?_
        · refine xCall f__law_steps ?_ hk l__law_steps ?_ ?_
          · refine lCons ?_ ?_
            · refine xScr hb hI hz ?_ hk l_script <;> rfl
            exact lNil
          · rfl
          rfl
        exact lNil
      · rfl
      rfl
    · refine simtg_tup ?_
      refine gsCons ?_ ?_ ?_
      · refine gName 3 ?_ hnd hk l_page <;> rfl
      · rfl
      refine gsCons ?_ ?_ ?_
      · refine gName 4 ?_ hnd hk l_rows <;> rfl
      · rfl
      exact .nil
    · rfl
    · rfl
    rfl
  refine sims_cons ?_ ?_
  · refine pAsg ?_ ?_ ?_ ?_ ?_
    · refine xCall f__law_run ?_ hk l__law_run ?_ ?_
      · refine lCons ?_ ?_
        · refine xAttr ?_ W.a_cP_octets ?_
          · refine xL 3 ?_ hk l_page ?_ <;> rfl
          rfl
        exact lNil
      · rfl
      rfl
    · refine gName 1 ?_ hnd hk l_told <;> rfl
    · rfl
    · rfl
    rfl
  refine sims_cons ?_ ?_
  · refine sims_if ?_ ?_ ?_
    · refine simc_or ?_ ?_
      · refine tCmp_ ?_ ?_ ?_
        · refine xL 1 ?_ hk l_told ?_ <;> rfl
        · exact sim_none
        rfl
      refine simc_or ?_ ?_
      · refine tCmp_ ?_ ?_ ?_
        · refine sim_sub ?_ ?_
          · refine xL 1 ?_ hk l_told ?_ <;> rfl
          exact sim_int
        · refine xAttr ?_ W.a_cP_deepest ?_
          · refine xL 3 ?_ hk l_page ?_ <;> rfl
          rfl
        rfl
      refine simc_or ?_ ?_
      · refine tCmp_ ?_ ?_ ?_
        · refine xBi bok_len W.b_len ?_ hk l_len ?_ ?_
          · refine lCons ?_ ?_
            · refine sim_sub ?_ ?_
              · refine xL 1 ?_ hk l_told ?_ <;> rfl
              exact sim_int
            exact lNil
          · rfl
          rfl
        · refine xBi bok_len W.b_len ?_ hk l_len ?_ ?_
          · refine lCons ?_ ?_
            · refine xL 4 ?_ hk l_rows ?_ <;> rfl
            exact lNil
          · rfl
          rfl
        rfl
      exact simc_or_nil
    · refine sims_cons ?_ ?_
      · refine sims_ret ?_
        exact sim_bool
      exact sims_nil
    exact sims_nil
  refine sims_cons ?_ ?_
  · refine pForR W.b_range ?_ ?_ ?_ hk l_range ?_ ?_
    · refine lCons ?_ ?_
      · refine xBi bok_len W.b_len ?_ hk l_len ?_ ?_
        · refine lCons ?_ ?_
          · refine xL 4 ?_ hk l_rows ?_ <;> rfl
          exact lNil
        · rfl
        rfl
      exact lNil
    · refine gName 2 ?_ hnd hk l_k <;> rfl
    · refine sims_cons ?_ ?_
      · refine pAsg ?_ ?_ ?_ ?_ ?_
        · refine sim_sub ?_ ?_
          · refine xL 4 ?_ hk l_rows ?_ <;> rfl
          refine xL 2 ?_ hk l_k ?_ <;> rfl
        · refine simtg_tup ?_
          refine gsCons ?_ ?_ ?_
          · refine gName 5 ?_ hnd hk l_h <;> rfl
          · rfl
          refine gsCons ?_ ?_ ?_
          · refine gName 6 ?_ hnd hk l_v <;> rfl
          · rfl
          refine gsCons ?_ ?_ ?_
          · refine gName 7 ?_ hnd hk l_aside <;> rfl
          · rfl
          refine gsCons ?_ ?_ ?_
          · refine gName 8 ?_ hnd hk l_down <;> rfl
          · rfl
          refine gsCons ?_ ?_ ?_
          · refine gName 9 ?_ hnd hk l_near_aside <;> rfl
          · rfl
          refine gsCons ?_ ?_ ?_
          · refine gName 10 ?_ hnd hk l_near_down <;> rfl
          · rfl
          exact .nil
        · rfl
        · rfl
        rfl
      refine sims_cons ?_ ?_
      · refine pAsg ?_ ?_ ?_ ?_ ?_
        · refine sim_sub ?_ ?_
          · refine sim_sub ?_ ?_
            · refine xL 1 ?_ hk l_told ?_ <;> rfl
            exact sim_int
          refine xL 2 ?_ hk l_k ?_ <;> rfl
        · refine simtg_tup ?_
          refine gsCons ?_ ?_ ?_
          · refine gName 11 ?_ hnd hk l_mark <;> rfl
          · rfl
          refine gsCons ?_ ?_ ?_
          · refine gName 12 ?_ hnd hk l_seen_h <;> rfl
          · rfl
          refine gsCons ?_ ?_ ?_
          · refine gName 13 ?_ hnd hk l_seen_v <;> rfl
          · rfl
          refine gsCons ?_ ?_ ?_
          · refine gName 14 ?_ hnd hk l_took_aside <;> rfl
          · rfl
          refine gsCons ?_ ?_ ?_
          · refine gName 15 ?_ hnd hk l_took_down <;> rfl
          · rfl
          exact .nil
        · rfl
        · rfl
        rfl
      refine sims_cons ?_ ?_
      · refine sims_if ?_ ?_ ?_
        · refine tCmp_ ?_ ?_ ?_
          · refine xTup ?_ ?_
            · refine lCons ?_ ?_
              · refine xL 11 ?_ hk l_mark ?_ <;> rfl
              refine lCons ?_ ?_
              · refine xL 12 ?_ hk l_seen_h ?_ <;> rfl
              refine lCons ?_ ?_
              · refine xL 13 ?_ hk l_seen_v ?_ <;> rfl
              exact lNil
            rfl
          · refine xTup ?_ ?_
            · refine lCons ?_ ?_
              · refine xL 2 ?_ hk l_k ?_ <;> rfl
              refine lCons ?_ ?_
              · refine xL 5 ?_ hk l_h ?_ <;> rfl
              refine lCons ?_ ?_
              · refine xL 6 ?_ hk l_v ?_ <;> rfl
              exact lNil
            rfl
          rfl
        · refine sims_cons ?_ ?_
          · refine sims_ret ?_
            exact sim_bool
          exact sims_nil
        exact sims_nil
      refine sims_cons ?_ ?_
      · refine sims_if ?_ ?_ ?_
        · refine simc_or ?_ ?_
          · refine simc_not ?_
            refine tVal_ ?_ ?_
            · refine xCall f__law_cost ?_ hk l__law_cost ?_ ?_
              · refine lCons ?_ ?_
                · refine xL 7 ?_ hk l_aside ?_ <;> rfl
                refine lCons ?_ ?_
                · refine xL 14 ?_ hk l_took_aside ?_ <;> rfl
                refine lCons ?_ ?_
                · refine xL 9 ?_ hk l_near_aside ?_ <;> rfl
                exact lNil
              · rfl
              rfl
            rfl
          refine simc_or ?_ ?_
          · refine simc_not ?_
            refine tVal_ ?_ ?_
            · refine xCall f__law_cost ?_ hk l__law_cost ?_ ?_
              · refine lCons ?_ ?_
                · refine xL 8 ?_ hk l_down ?_ <;> rfl
                refine lCons ?_ ?_
                · refine xL 15 ?_ hk l_took_down ?_ <;> rfl
                refine lCons ?_ ?_
                · refine xL 10 ?_ hk l_near_down ?_ <;> rfl
                exact lNil
              · rfl
              rfl
            rfl
          exact simc_or_nil
        · refine sims_cons ?_ ?_
          · refine sims_ret ?_
            exact sim_bool
          exact sims_nil
        exact sims_nil
      exact sims_nil
    · rfl
    rfl
  refine sims_cons ?_ ?_
  · refine sims_ret ?_
    exact sim_bool
  exact sims_nil
end
section
set_option genSizeOf false
set_option genSizeOfSpec false
set_option maxRecDepth 100000
set_option autoImplicit false
theorem law_boxS_inv {args : List AV} {H : AHeap} {P : AV → AHeap → Prop} (h : law_boxS args H P) : ∃ s k, args = [.ref s, .int k] ∧ law_boxS [.ref s, .int k] H P := by
  cases args with
  | nil => exact h.elim
  | cons a0 l0 =>
    cases a0 with
    | none => exact h.elim
    | bool _ => exact h.elim
    | int _ => exact h.elim
    | bytes _ => exact h.elim
    | ref s =>
      cases l0 with
      | nil => exact h.elim
      | cons a1 l1 =>
        cases a1 with
        | none => exact h.elim
        | bool _ => exact h.elim
        | bytes _ => exact h.elim
        | ref _ => exact h.elim
        | int k =>
          cases l1 with
          | cons _ _ => exact h.elim
          | nil => exact ⟨_, _, rfl, h⟩
theorem law_box_ok (D : Ad) : ∀ args H P, law_boxS args H P → args.length = 2 ∧ m_law_box D (startLoc args 1) H (fun fl _ H' => match fl with | .ret v => P v H' | .next => P .none H' | _ => False) := by
  intro args H P h
  obtain ⟨s, k, rfl, h⟩ := law_boxS_inv h
  · unfold law_boxS at h
    (try dsimp only at h)
    obtain ⟨xs, hs, hlen, h0, h4, hP⟩ := h
    refine ⟨rfl, ?_⟩
    have fin : ∀ (H1 : AHeap) (c : Int), Kp [] H H1 → 0 ≤ c → (sSeq (sRet (mList (aCons (mLoc 2) (aCons (mConst (.int 0)) (aCons (mBin .Mod (mLoc 2) (mConst (.int 1000003))) aNil))))) sNil) [some (.ref s), some (.int k), some (.int c)] H1 (fun fl _ H' => match fl with | .ret v => P v H' | .next => P .none H' | _ => False) := by
      intro H1 c K1 hc
      refine r_seq ?_
      try simp (disch := omega) only [k_ret, l_z, l_s, b_Mod, sRet, mConst, mBin, e_mList, aCons, aNil]
      have hf := fmod_bd c (m := 1000003) (by decide)
      refine ⟨by show 3 ≤ 1000; decide, nw fun b Ha hb fa Ka ga => ?_⟩
      exact hP Ha b c (c.fmod 1000003) (K1.trans Ka) (by
        cases q : H b with
        | none => rfl
        | some o => have := K1 _ _ q (by simp); rw [hb] at this; cases this) fa hc hf.1 hf.2
    unfold m_law_box
    refine r_seq ?_
    try simp (disch := omega) only [e_sIf, l_z, l_s, tCmp, mCall, aCons, aNil, startLoc, List.map_cons, List.map_nil, List.replicate, List.cons_append, List.nil_append]
    rw [e_len hs (by rw [intsV_length]; simp [LIM]; omega), intsV_length]
    try simp (disch := omega) only [c_Lt, decide_eq_true_eq]
    by_cases q : k < (xs.length : Int)
    · rw [if_pos q]
      refine r_seq ?_
      try simp (disch := omega) only [k_next, e_nil, l_z, l_s, sAssign, tName, List.set_cons_zero, List.set_cons_succ, mCall, mSub, aCons, aNil]
      have hlt : k.toNat < xs.length := by omega
      have ei : idxOf (intsV xs).length k = k := by unfold idxOf; rw [if_neg (by omega)]
      rw [e_sub (v := .int xs[k.toNat]) (.inl hs) (by omega) (by rw [ei]; omega) (by rw [ei]; unfold intsV; rw [List.getElem?_map, List.getElem?_eq_getElem hlt]; rfl)]
      try simp (disch := omega) only [e_abs, e_int]
      exact fin H _ (Kp.refl _ _) (by split <;> omega)
    · rw [if_neg q]
      refine r_seq ?_
      try simp (disch := omega) only [k_next, e_nil, l_z, l_s, b_Add, b_Mul, sAssign, tName, List.set_cons_zero, List.set_cons_succ, mConst, mBin, mCall, aCons, aNil]
      unfold mMap
      refine ⟨fun i => if i < 0 then -i else i, ?_⟩
      try simp (disch := omega) only [l_z]
      refine ⟨xs, .inl hs, by omega, rfl, nw fun z Ha hz fa Ka ga => ?_⟩
      unfold sumS
      dsimp only
      refine ⟨_, fa, ?_⟩
      try simp (disch := omega) only [b_Add, b_Mod]
      have hm := fmod_bd ((xs.map fun i => if i < 0 then -i else i).sum) (m := 99991) (by decide)
      exact fin Ha _ Ka (by omega)
noncomputable def law_costS : Spec := fun args H P => match args with
  | [.int size, .int took, .bool near] => costP size took near ∧ ∀ H', Kp [] H H' → P (.bool true) H'
  | _ => False
theorem abs_if (z : Int) : (if z < 0 then -z else z) = (z.natAbs : Int) := by split <;> omega
theorem bounds_nat (n : Nat) : (([128, 32768, 8388608] : List Int).map fun b => if b ≤ (n : Int) then (1 : Int) else 0).sum = ((if n < 128 then 1 else if n < 32768 then 2 else if n < 8388608 then 3 else 4 : Nat) : Int) - 1 := by
  simp only [List.map_cons, List.map_nil, List.sum_cons, List.sum_nil]
  by_cases h1 : n < 128
  · rw [if_pos h1, if_neg (by omega), if_neg (by omega), if_neg (by omega)]; rfl
  · rw [if_neg h1, if_pos (by omega)]
    by_cases h2 : n < 32768
    · rw [if_pos h2, if_neg (by omega), if_neg (by omega)]; rfl
    · rw [if_neg h2, if_pos (by omega)]
      by_cases h3 : n < 8388608
      · rw [if_pos h3, if_neg (by omega)]; rfl
      · rw [if_neg h3, if_pos (by omega)]; rfl
theorem bounds_sum (z : Int) : (([128, 32768, 8388608] : List Int).map fun b => if b ≤ (if z < 0 then -z else z) then (1 : Int) else 0).sum = (roomS z : Int) - 1 := by
  rw [abs_if]
  exact bounds_nat z.natAbs
theorem e_mCell {c : Addr} {H : AHeap} {v : AV} (h : H c = some (.cell v)) (ρ : Loc) (P : AV → AHeap → Prop) : mCell c ρ H P = P v H := by
  unfold mCell
  rw [h]
  apply propext
  constructor
  · rintro ⟨w, e, hp⟩; cases e; exact hp
  · intro hp; exact ⟨v, rfl, hp⟩
theorem e_mOr (a b : ME) (ρ : Loc) (H : AHeap) (P : AV → AHeap → Prop) : mOr a b ρ H P = a ρ H (fun v H => truthS v fun c => if c = true then P v H else b ρ H P) := by
  unfold mOr; congr; funext v H; congr; funext c; cases c <;> simp
theorem law_costS_inv {args : List AV} {H : AHeap} {P : AV → AHeap → Prop} (h : law_costS args H P) : ∃ size took near, args = [.int size, .int took, .bool near] ∧ law_costS [.int size, .int took, .bool near] H P := by
  cases args with
  | nil => exact h.elim
  | cons a0 l0 =>
    cases a0 with
    | none => exact h.elim
    | bool _ => exact h.elim
    | bytes _ => exact h.elim
    | ref _ => exact h.elim
    | int size =>
      cases l0 with
      | nil => exact h.elim
      | cons a1 l1 =>
        cases a1 with
        | none => exact h.elim
        | bool _ => exact h.elim
        | bytes _ => exact h.elim
        | ref _ => exact h.elim
        | int took =>
          cases l1 with
          | nil => exact h.elim
          | cons a2 l2 =>
            cases a2 with
            | none => exact h.elim
            | int _ => exact h.elim
            | bytes _ => exact h.elim
            | ref _ => exact h.elim
            | bool near =>
              cases l2 with
              | cons _ _ => exact h.elim
              | nil => exact ⟨_, _, _, rfl, h⟩
theorem law_cost_ok (D : Ad) : ∀ args H P, law_costS args H P → ∃ z tk nr, args = [z, tk, nr] ∧ ∀ c, H c = none → m_law_cost D c [some tk, some nr] (upd H c (.cell z)) (fun fl _ H' => match fl with | .ret v => P v H' | .next => P .none H' | _ => False) := by
  intro args H P h
  obtain ⟨z, tk, nr, rfl, h⟩ := law_costS_inv h
  · unfold law_costS at h
    (try dsimp only at h)
    obtain ⟨hc, hP⟩ := h
    refine ⟨_, _, _, rfl, fun c hcn => ?_⟩
    have K0 : Kp [] H (upd H c (.cell (.int z))) := Kp.new _ hcn
    have f0 : upd H c (.cell (.int z)) c = some (.cell (.int z)) := upd_self _ _ _
    generalize upd H c (.cell (.int z)) = H0 at K0 f0
    unfold costP at hc
    unfold m_law_cost
    refine r_seq ?_
    try simp (disch := omega) only [k_next, e_nil, e_sIf, e_tOr, e_tVal, l_z, l_s, mConst, tCmp, truthS, tFalse, if_true, Bool.false_eq_true, if_false]
    rw [e_mCell f0]
    try simp (disch := omega) only [c_Eq, decide_eq_true_eq]
    have main1 : (z = 0 ∨ nr = true) → (sSeq (sRet (mCmp .Eq (mLoc 0) (mCall intS (aCons (mCmp .NotEq (mCell c) (mConst (.int 0))) aNil)))) sNil) [some (.int tk), some (.bool nr)] H0 (seqK (sSeq (sRet (mOr (mCmp .Eq (mLoc 0) (mConst (.int 1))) (mCmp .Eq (mLoc 0) (mBin .Add (mConst (.int 2)) (mCall sumS (aCons (mMap (mTup (aCons (mConst (.int 128)) (aCons (mConst (.int 32768)) (aCons (mConst (.int 8388608)) aNil)))) (Gcost c)) aNil)))))) sNil) (fun fl _ H' => match fl with | .ret v => P v H' | .next => P .none H' | _ => False)) := by
      intro q
      rw [if_pos q] at hc
      refine r_seq ?_
      try simp (disch := omega) only [k_ret, l_z, c_Eq, e_intb, sRet, mConst, mCmp, mCall, aCons, aNil]
      rw [e_mCell f0]
      try simp (disch := omega) only [c_Ne, decide_eq_true_eq]
      have : decide (tk = if z ≠ 0 then 1 else 0) = true := by
        rw [decide_eq_true_eq, hc]
        by_cases q2 : z = 0
        · rw [if_pos q2, if_neg (by simp [q2])]
        · rw [if_neg q2, if_pos q2]
      rw [this]
      exact hP H0 K0
    by_cases q : z = 0
    · rw [if_pos q]
      exact main1 (.inl q)
    · rw [if_neg q]
      cases nr with
      | true => exact main1 (.inr rfl)
      | false =>
        rw [if_neg (by simp [q])] at hc
        show (sSeq (sRet (mOr (mCmp .Eq (mLoc 0) (mConst (.int 1))) (mCmp .Eq (mLoc 0) (mBin .Add (mConst (.int 2)) (mCall sumS (aCons (mMap (mTup (aCons (mConst (.int 128)) (aCons (mConst (.int 32768)) (aCons (mConst (.int 8388608)) aNil)))) (Gcost c)) aNil)))))) sNil) _ _ _
        refine r_seq ?_
        try simp (disch := omega) only [k_ret, sRet]
        rw [e_mOr]
        try simp (disch := omega) only [l_z, c_Eq, mConst, mBin, mCmp, mCall, aCons, aNil, truthS, decide_eq_true_eq]
        by_cases q1 : tk = 1
        · simp only [q1, decide_true, if_true]
          exact hP H0 K0
        · simp only [q1, decide_false, if_false, Bool.false_eq_true]
          unfold mMap
          refine ⟨fun b => if b ≤ (if z < 0 then -z else z) then 1 else 0, ?_⟩
          try simp (disch := omega) only [mConst, e_mTup, aCons, aNil]
          refine ⟨by show 3 ≤ 1000; decide, nw fun tu Ha htu fa Ka ga => ?_⟩
          refine ⟨[128, 32768, 8388608], .inr fa, by decide, ⟨z, Ka _ _ f0 (by simp), rfl⟩, nw fun y Hb hy fb Kb gb => ?_⟩
          unfold sumS
          dsimp only
          refine ⟨_, fb, ?_⟩
          rw [bounds_sum]
          try simp (disch := omega) only [c_Eq, b_Add]
          have : decide (tk = 2 + ((roomS z : Int) - 1)) = true := by
            rw [decide_eq_true_eq]
            rcases hc with e | e
            · exact absurd e q1
            · omega
          rw [this]
          exact hP Hb ((K0.trans Ka).trans Kb)
end
section
set_option genSizeOf false
set_option genSizeOfSpec false
set_option maxRecDepth 100000
set_option autoImplicit false
noncomputable def lawB (D : Ad) : MS := (sSeq (sAssign (tTup [(tName 5), (tName 6), (tName 7), (tName 8), (tName 9), (tName 10)]) (mSub (mLoc 4) (mLoc 2)))
  (sSeq (sAssign (tTup [(tName 11), (tName 12), (tName 13), (tName 14), (tName 15)]) (mSub (mSub (mLoc 1) (mConst (.int 0))) (mLoc 2)))
  (sSeq (sIf (tCmp .NotEq (mTup (aCons (mLoc 11) (aCons (mLoc 12) (aCons (mLoc 13) aNil)))) (mTup (aCons (mLoc 2) (aCons (mLoc 5) (aCons (mLoc 6) aNil)))))
  (sSeq (sRet (mConst (.bool false)))
  sNil)
  sNil)
  (sSeq (sIf (tOr (tNot (tVal (mCall D.law_costS (aCons (mLoc 7) (aCons (mLoc 14) (aCons (mLoc 9) aNil)))))) (tOr (tNot (tVal (mCall D.law_costS (aCons (mLoc 8) (aCons (mLoc 15) (aCons (mLoc 10) aNil)))))) tFalse))
  (sSeq (sRet (mConst (.bool false)))
  sNil)
  sNil)
  sNil))))
theorem lawB_run (D : Ad) (ρ : Loc) (H : AHeap) (K : PS) : lawB D ρ H K = (sSeq (sAssign (tTup [(tName 5), (tName 6), (tName 7), (tName 8), (tName 9), (tName 10)]) (mSub (mLoc 4) (mLoc 2)))
  (sSeq (sAssign (tTup [(tName 11), (tName 12), (tName 13), (tName 14), (tName 15)]) (mSub (mSub (mLoc 1) (mConst (.int 0))) (mLoc 2)))
  (sSeq (sIf (tCmp .NotEq (mTup (aCons (mLoc 11) (aCons (mLoc 12) (aCons (mLoc 13) aNil)))) (mTup (aCons (mLoc 2) (aCons (mLoc 5) (aCons (mLoc 6) aNil)))))
  (sSeq (sRet (mConst (.bool false)))
  sNil)
  sNil)
  (sSeq (sIf (tOr (tNot (tVal (mCall D.law_costS (aCons (mLoc 7) (aCons (mLoc 14) (aCons (mLoc 9) aNil)))))) (tOr (tNot (tVal (mCall D.law_costS (aCons (mLoc 8) (aCons (mLoc 15) (aCons (mLoc 10) aNil)))))) tFalse))
  (sSeq (sRet (mConst (.bool false)))
  sNil)
  sNil)
  sNil)))) ρ H K := rfl
theorem law_run0 (D : Ad) (l : Addr) (ns : List Int) (ρ : Loc) (H : AHeap) (K : PS) : m_law D l ns ρ H K = (sSeq (sAssign (tTup [(tName 3), (tName 4)]) (mCall D.law_writtenS (aCons (mCall D.law_stepsS (aCons (mScr l ns) aNil)) aNil)))
  (sSeq (sAssign (tName 1) (mCall D.law_runS (aCons (mAttr D.cP "octets" (mLoc 3)) aNil)))
  (sSeq (sIf (tOr (tCmp .Is (mLoc 1) (mConst .none)) (tOr (tCmp .NotEq (mSub (mLoc 1) (mConst (.int 1))) (mAttr D.cP "deepest" (mLoc 3))) (tOr (tCmp .NotEq (mCall lenS (aCons (mSub (mLoc 1) (mConst (.int 0))) aNil)) (mCall lenS (aCons (mLoc 4) aNil))) tFalse)))
  (sSeq (sRet (mConst (.bool false)))
  sNil)
  sNil)
  (sSeq (sForR (tName 2) (aCons (mCall lenS (aCons (mLoc 4) aNil)) aNil)
  (lawB D))
  (sSeq (sRet (mConst (.bool true)))
  sNil))))) ρ H K := rfl
theorem e_isR (a : Addr) (H : AHeap) (P : Bool → AHeap → Prop) : cmpS .Is (.ref a) .none H P = P false H := rfl
theorem h_subL {l : Addr} {rws : List Addr} {i : Nat} {a : Addr} {H : AHeap} {P : AV → AHeap → Prop} (h : H l = some (.list (rws.map .ref))) (hi : rws[i]? = some a) (hz : i < 2 ^ 40) (k : P (.ref a) H) : subS (.ref l) (.int i) H P := by
  have hlt := (List.getElem?_eq_some_iff.mp hi).1
  have ei : idxOf (rws.map AV.ref).length (i : Int) = i := by unfold idxOf; rw [if_neg (by omega)]
  rw [e_sub (v := .ref a) (.inl h) (by omega) (by rw [ei]; omega) (by rw [ei, List.getElem?_map]; simp [hi])]
  exact k
theorem law_loop (D : Ad) (hD : D.law_costS = law_costS) {t r r2 : Addr} {rws rws2 : List Addr} {rows : List WRow} {outs : List Out} {deep : Int} (hO : OutsOk outs rows) (hz : rows.length ≤ 100) (x0 x3 : Option AV) (K : PS) : ∀ (n i : Nat) (H : AHeap) (x2 x5 x6 x7 x8 x9 x10 x11 x12 x13 x14 x15 : Option AV),
    i + n = rows.length → H t = some (.tup [.ref r2, .int deep]) → H r2 = some (.list (rws2.map .ref)) → Tab outO H rws2 outs → H r = some (.list (rws.map .ref)) → Tab wrowO H rws rows →
    (∀ ρ H', K .next ρ H') →
    forR (tName 2) (lawB D) (upList i n) [x0, some (.ref t), x2, x3, some (.ref r), x5, x6, x7, x8, x9, x10, x11, x12, x13, x14, x15] H K := by
  have hb : ∀ (a b c : AV) (H : AHeap) (P : AV → AHeap → Prop), D.law_costS [a, b, c] H P = law_costS [a, b, c] H P := fun a b c H P => by rw [hD]
  intro n
  induction n with
  | zero => intro i H x2 x5 x6 x7 x8 x9 x10 x11 x12 x13 x14 x15 hi h1 h2 h3 h4 h5 h6; exact h6 _ _
  | succ n ih =>
    intro i H x2 x5 x6 x7 x8 x9 x10 x11 x12 x13 x14 x15 hi h1 h2 h3 h4 h5 h6
    have hlt : i < rows.length := by omega
    have hlt2 : i < outs.length := by rw [hO.1]; exact hlt
    obtain ⟨a, ha, hav⟩ := h5.get (List.getElem?_eq_getElem hlt)
    obtain ⟨a2, ha2, hav2⟩ := h3.get (List.getElem?_eq_getElem hlt2)
    obtain ⟨o1, o2, o3, o4, o5⟩ := hO.2 i _ _ (List.getElem?_eq_getElem hlt2) (List.getElem?_eq_getElem hlt)
    generalize rows[i] = w at *
    generalize outs[i] = o at *
    unfold upList forR
    try simp (disch := omega) only [tName, List.set_cons_zero, List.set_cons_succ]
    rw [lawB_run]
    refine r_seq ?_
    try simp (disch := omega) only [k_next, l_z, l_s, sAssign, tt6, mSub]
    refine h_subL h4 ha (by omega) ?_
    rw [e_seqL (n := 6) (.inr hav) rfl]
    try simp (disch := omega) only [tName, te_c, te_n, List.set_cons_zero, List.set_cons_succ]
    refine r_seq ?_
    try simp (disch := omega) only [k_next, l_z, l_s, sAssign, tt5, mConst, mSub]
    rw [e_sub (v := .ref r2) (.inr h1) (by decide) (by show (0 : Int) ≤ 0; decide) rfl]
    refine h_subL h2 ha2 (by omega) ?_
    rw [e_seqL (n := 5) (.inr hav2) rfl]
    show tEach [tName 11, tName 12, tName 13, tName 14, tName 15] [.int o.k, .int o.h, .int o.v, .int o.ta, .int o.td] _ _ _
    try simp (disch := omega) only [tName, te_c, te_n, List.set_cons_zero, List.set_cons_succ]
    refine r_seq ?_
    try simp (disch := omega) only [k_next, e_nil, e_sIf, l_z, l_s, tCmp, e_mTup, aCons, aNil]
    refine ⟨by show 3 ≤ 1000; decide, nw fun y1 Ha hy1 fa Ka ga => ?_⟩
    refine ⟨by show 3 ≤ 1000; decide, nw fun y2 Hb hy2 fb Kb gb => ?_⟩
    refine .inr ⟨[o.k, o.h, o.v], [(i : Int), w.h, w.v], Kb _ _ fa (by simp), fb, ?_⟩
    have e : (decide (([o.k, o.h, o.v] : List Int) = [(i : Int), w.h, w.v]) == false) = false := by
      rw [o1, o2, o3]; simp
    rw [e]
    try simp (disch := omega) only [Bool.false_eq_true, if_false]
    refine r_seq ?_
    try simp (disch := omega) only [k_next, e_nil, t_next, e_sIf, e_tOr, e_tNot, e_tVal, l_z, l_s, mCall, aCons, aNil, truthS, tFalse, if_true, Bool.false_eq_true, if_false]
    rw [hb]
    refine ⟨o4, fun Hc Kc => ?_⟩
    dsimp only [truthS, Bool.not_true]
    rw [hb]
    refine ⟨o5, fun Hd Kd => ?_⟩
    dsimp only [truthS, Bool.not_true]
    have KK := ((Ka.trans Kb).trans Kc).trans Kd
    have ei : ((i : Int) + 1) = ((i + 1 : Nat) : Int) := by omega
    rw [ei]
    exact ih (i + 1) Hd _ _ _ _ _ _ _ _ _ _ _ _ (by omega) (KK _ _ h1 (by simp)) (KK _ _ h2 (by simp)) (h3.kp KK (by simp)) (KK _ _ h4 (by simp)) (h5.kp KK (by simp)) h6
theorem law_ok (D : Ad) (hD1 : D.law_stepsS = law_stepsS) (hD2 : D.law_writtenS = law_writtenS D.cM D.cP) (hD3 : D.law_runS = law_runS) (hD4 : D.law_costS = law_costS) (l : Addr) (ns : List Int) (hz : ns.length ≤ 63) :
    m_law D l ns (startLoc [.ref l] 15) (fun _ => none) (fun fl _ _ => fl = .ret (.bool true)) := by
  rw [law_run0]
  refine r_seq ?_
  try simp (disch := omega) only [k_next, sAssign, tt2, mCall, aCons, aNil, startLoc, List.map_cons, List.map_nil, List.replicate, List.cons_append, List.nil_append]
  refine ⟨rfl, nw fun s Ha hs fa Ka ga => ?_⟩
  rw [hD1]
  refine ⟨ns.take 4, fa, by simp; omega, fun Hb ls as ts Kb fb T hn h24 hok => ?_⟩
  dsimp only
  obtain ⟨hg, cs, m, e1, e2, e3, e4, e5, e6, e7, e8⟩ := plain_law h24 hok
  rw [hD2]
  refine ⟨as, ts, fb, T, by omega, hg, fun Hc t A raa rad r rws fc p hr T2 => ?_⟩
  dsimp only
  rw [e_seqL (n := 2) (.inr fc) rfl]
  try simp (disch := omega) only [tName, te_c, te_n, List.set_cons_zero, List.set_cons_succ]
  refine r_seq ?_
  try simp (disch := omega) only [k_next, l_z, l_s, sAssign, tName, List.set_cons_zero, List.set_cons_succ, mCall, mAttr, aCons, aNil]
  rw [p.octets, hD3]
  have ho := p.oc
  rw [e1] at ho
  refine ⟨cs, m, ho, e2, e3, e4, e5, fun Hd t2 r2 rws2 Kd ft fr T3 => ?_⟩
  dsimp only
  have p2 := p.kp0 Kd
  have hr2 := Kd _ _ hr (by simp)
  have T4 := T2.kp Kd (by simp)
  refine r_seq ?_
  try simp (disch := omega) only [k_next, e_nil, e_sIf, e_tOr, l_z, l_s, mConst, tCmp, mCall, mAttr, mSub, aCons, aNil, tFalse, if_true, Bool.false_eq_true, if_false]
  rw [e_isR]
  try simp (disch := omega) only [Bool.false_eq_true, if_false]
  rw [e_sub (v := .int m.deep) (.inr ft) (by decide) (by show (0 : Int) ≤ 1; decide) rfl]
  rw [p2.deepest]
  try simp (disch := omega) only [c_Ne, decide_eq_true_eq]
  rw [if_neg (by rw [e6]; simp)]
  rw [e_sub (v := .ref r2) (.inr ft) (by decide) (by show (0 : Int) ≤ 0; decide) rfl]
  have l3 := T3.length
  have l4 := T4.length
  have lo := e7.1
  rw [e_len fr (by simp [LIM]; omega), List.length_map, e_len hr2 (by simp [LIM]; omega), List.length_map]
  try simp (disch := omega) only [c_Ne, decide_eq_true_eq]
  rw [if_neg (by omega)]
  refine r_seq ?_
  show sForR (tName 2) _ (lawB D) _ _ _
  try simp (disch := omega) only [l_z, l_s, sForR, mCall, aCons, aNil, rangeS]
  rw [e_len hr2 (by simp [LIM]; omega), List.length_map, l4]
  refine ⟨by omega, by omega, ?_⟩
  rw [Int.toNat_natCast]
  refine law_loop D hD4 (rws := rws) (rws2 := rws2) e7 e8 _ _ _ _ 0 Hd _ _ _ _ _ _ _ _ _ _ _ _ (by omega) ft fr T3 hr2 T4 fun ρ H' => ?_
  rw [k_next]
  refine r_seq ?_
  try simp (disch := omega) only [k_ret, sRet, mConst]
end
section
set_option genSizeOf false
set_option genSizeOfSpec false
set_option maxRecDepth 100000
set_option autoImplicit false
theorem callOk_cost {V : Wd} (hcl : V.cl = []) {lv : Nat} {f : Addr} {S : Spec} {m : Addr → MS} (hf : FnAt V.K f (top 27) "_law_cost" ["size", "took", "near"])
    (hsim : ∀ c, SimS { V with cl := [(("size" : Str), c)] } lv "_law_cost" (fdScope (top 27)) nz_law_cost (execs (fdBody (top 27))) (m c))
    (hS : ∀ args H P, S args H P → ∃ z tk nr, args = [z, tk, nr] ∧ ∀ c, H c = none → m c [some tk, some nr] (upd H c (.cell z)) (fun fl _ H' => match fl with | .ret v => P v H' | .next => P .none H' | _ => False)) : CallOk V lv f S := by
  obtain ⟨Vp, Vw, VK, Vpp, Vl, Vm, Vmg, Vmb, Vb, Vcl⟩ := V
  simp only at hcl
  subst hcl
  intro args H P hs A₀ A env outer h₀ L mm s ex vals R B F X RN T hA hf' hke hh hd hu rv kk
  obtain ⟨z, tk, nr, rfl, hm⟩ := hS args H P hs
  obtain ⟨dV, kV, doc, pm, cdv, ct, oc, an, od, osl, ho, hcd, hbind⟩ := hf
  cases rv with | @cons v1 _ _ _ r1 rv =>
  cases rv with | @cons v2 _ _ _ r2 rv =>
  cases rv with | @cons v3 _ _ _ r3 rv =>
  cases rv
  obtain ⟨news, N, hnd', hH, hx⟩ := RN
  obtain ⟨sc, hsc⟩ : ∃ sc, sc = fdScope (top 27) := ⟨_, rfl⟩
  have hk : sc.kind = .function := by rw [hsc]; rfl
  have hco : sc.isCoroutine = false := by rw [hsc]; rfl
  have hge : sc.isGenerator = false := by rw [hsc]; rfl
  have hcf : ∀ n, cellsFrom n sc.names [] = [(("size" : Str), n)] := fun n => by rw [hsc]; rfl
  have k1 : sc.names.lookup ("size" : Str) = some .cell := by rw [hsc]; rfl
  have k2 : sc.names.lookup ("took" : Str) = some .local := by rw [hsc]; rfl
  have k3 : sc.names.lookup ("near" : Str) = some .local := by rw [hsc]; rfl
  rw [← hsc] at ho hbind
  simp only [← hsc] at hsim
  refine code_defC (name := fdName (top 27)) (qual := "_law_cost") (params := fdArgs (top 27)) (body := fdBody (top 27)) (scope := sc) B F X N T hA hf' hke ho hcd (by omega) (BindsTo.of_eq (hbind [v1, v2, v3] rfl)) ?_ ?_ ?_ hco hge hk
  · simp [List.all_cons, k1, k2, k3]
  · rw [hcf]; simp
  · intro g L' h₁ tk' cells F₀ F₁ N₁ CA B₁ X₁ T₁ hlt
    rw [hcf] at CA
    obtain ⟨o, rfl, hod⟩ := CA.one
    have hbl : bindL (envOfC "_law_cost" sc L' f cdv).kindOf [(("size" : Str), v1), ("took", v2), ("near", v3)] (fun _ => none) = fun y => if y = ("near" : Str) then some v3 else if y = ("took" : Str) then some v2 else none := by
      have q1 : (envOfC "_law_cost" sc L' f cdv).kindOf ("size" : Str) = some .cell := k1
      have q2 : (envOfC "_law_cost" sc L' f cdv).kindOf ("took" : Str) = some .local := k2
      have q3 : (envOfC "_law_cost" sc L' f cdv).kindOf ("near" : Str) = some .local := k3
      simp [bindL, q1, q2, q3]
    have hbc : bindC (envOfC "_law_cost" sc L' f cdv).kindOf [(("size" : Str), v1), ("took", v2), ("near", v3)] (fun _ => none) ("size" : Str) = some v1 := by
      have q1 : (envOfC "_law_cost" sc L' f cdv).kindOf ("size" : Str) = some .cell := k1
      have q2 : (envOfC "_law_cost" sc L' f cdv).kindOf ("took" : Str) = some .local := k2
      have q3 : (envOfC "_law_cost" sc L' f cdv).kindOf ("near" : Str) = some .local := k3
      simp [bindC, q1, q2, q3]
    have F₁ : Fr g L' h₁ (fun y => if y = ("near" : Str) then some v3 else if y = ("took" : Str) then some v2 else none) := hbl ▸ F₁
    have hod : o.data = .cell (some v1) := by rw [← hbc]; exact hod
    have hce : envOfC "_law_cost" sc L' f cdv = envX "_law_cost" sc L' f cdv [(("size" : Str), L' + 1)] := by
      show envX "_law_cost" sc L' f cdv (cellsFrom (L' + 1) sc.names []) = _
      rw [hcf]
    have hgo := (N₁ (L' + 1, o) (.head _)).1
    have hfree : o.isFreed = false := by
      obtain ⟨oc', od', oda', os'⟩ := o
      dsimp only at hod
      subst hod
      rfl
    have hne : ∀ p ∈ news, p.1 ≠ L' + 1 := fun p hp => Nat.ne_of_lt (Nat.lt_succ_of_lt (hlt p hp))
    have hHn : H (L' + 1) = none := by
      cases q : H (L' + 1) with
      | none => rfl
      | some x => obtain ⟨co, hmm, _⟩ := hH _ x q; exact absurd rfl (hne _ hmm)
    have R₁ : RepN g L' h₁ ex (upd H (L' + 1) (.cell z)) := by
      refine ⟨(L' + 1, o) :: news, N₁, ?_, fun b ob hb => ?_, fun p hp => ?_⟩
      · rw [List.map_cons, List.nodup_cons]
        refine ⟨fun hmm => ?_, hnd'⟩
        obtain ⟨p, hp, e⟩ := List.mem_map.mp hmm
        exact hne p hp e
      · by_cases q : b = L' + 1
        · subst q; rw [upd_self] at hb; cases hb; exact ⟨o, .head _, .cell hod hfree r1⟩
        · rw [upd_ne _ _ q] at hb
          obtain ⟨cb, hmb, hrb⟩ := hH b ob hb
          exact ⟨cb, .tail _ hmb, hrb⟩
      · obtain ⟨hp1, hp2⟩ := hx p hp
        exact ⟨.tail _ hp1, by rw [upd_ne _ _ (hne _ hp1)]; exact hp2⟩
    rw [hce]
    let C : FC ⟨Vp, Vw, VK, Vpp, Vl, Vm, Vmg, Vmb, Vb, [(("size" : Str), L' + 1)]⟩ lv "_law_cost" sc := { L := L', a := f, cd := cdv, A := A.deeper (envX "_law_cost" sc L' f cdv [(("size" : Str), L' + 1)]), A₀ := A, outer := env :: outer, h₀ := g, B := B₁, X := X₁, T := T₁, hA := Around.frames_deeper hA, hh := hh, hd := by show A.depth + 1 + lv < _; omega, hu := by show A.units + 3 + 10 * lv < _; omega }
    refine hsim (L' + 1) C [some tk, some nr] (upd H (L' + 1) (.cell z)) _ (hm (L' + 1) hHn) { s with heap := h₁, toks := tk' } ex (fun y => if y = ("near" : Str) then some v3 else if y = ("took" : Str) then some v2 else none) _ _ F₁ ?_ R₁ ?_
    · refine ⟨rfl, fun i x v hi hv => ?_⟩
      match i, hi, hv with
      | 0, hi, hv =>
        cases hi; cases hv
        exact ⟨v2, by show (if ("took" : Str) = ("near" : Str) then some v3 else if ("took" : Str) = ("took" : Str) then some v2 else none) = some v2; rw [if_neg (by decide), if_pos rfl], r2⟩
      | 1, hi, hv =>
        cases hi; cases hv
        exact ⟨v3, if_pos rfl, r3⟩
      | n + 2, hi, hv => simp at hv
    · intro fl afl ρ' H' h' tk2 mm' rf hP F' LR' R'
      obtain ⟨news', N', hnd2, hH', hx'⟩ := R'
      have fin : ∀ v av, VRep v av → P av H' → LeaveK h₀ L mm g R v { s with heap := h', toks := tk2 } := fun v av r hp =>
        leaveK_ (s' := { s with heap := h', toks := tk2 }) F' N' fun F₂ N₂ => kk v av H' h' tk2 r hp F₂ ⟨news', N₂, hnd2, hH', hx'⟩
      cases rf with
      | next => exact fin _ _ .none hP
      | brk => exact hP.elim
      | cont => exact hP.elim
      | ret r => exact fin _ _ r hP
end
section
set_option genSizeOf false
set_option genSizeOfSpec false
set_option maxRecDepth 100000
set_option autoImplicit false
noncomputable def FnIs (V : Wd) (x : Str) (st : Stmt) (pn : List Str) : Prop := ∃ f, nsIn V.K mainGlobals x = some (some (.ref f)) ∧ keepIn V.K (.ref f) = true ∧ FnAt V.K f st x pn
noncomputable def MeIs (V : Wd) (C : Addr) (n : Str) (st : Stmt) (qual : Str) (pn : List Str) : Prop := ∃ f, MethOk V.K C n f ∧ FnAt V.K f st qual pn
noncomputable def ClIs (V : Wd) (x : Str) (C : Addr) (st : Stmt) (qual : Str) (pn : List Str) : Prop := ∃ f, nsIn V.K mainGlobals x = some (some (.ref C)) ∧ ClsOk V.K C f ∧ FnAt V.K f st qual pn
theorem gfn {V : Wd} {lv : Nat} {S : Spec} {x : Str} {st : Stmt} {pn nz : List Str} {m : MS} (hf : FnIs V x st pn) (hcl : V.cl = []) (hnz : nz.take pn.length = pn) (hnd : nz.Nodup) (hsc : scOk (fdScope st) pn = true) (hsim : SimS V lv x (fdScope st) nz (execs (fdBody st)) m)
    (hS : ∀ args H P, S args H P → args.length = pn.length ∧ m (startLoc args (nz.length - pn.length)) H (fun fl _ H' => match fl with | .ret v => P v H' | .next => P .none H' | _ => False)) : GFn V lv x S := by
  obtain ⟨f, a, b, c⟩ := hf
  exact ⟨f, a, b, callOk_at hcl c hnz hnd hsc hsim hS⟩
theorem gme {V : Wd} {lv : Nat} {S : Spec} {C : Addr} {n qual : Str} {st : Stmt} {pn nz : List Str} {m : MS} (hf : MeIs V C n st qual pn) (hcl : V.cl = []) (hnz : nz.take pn.length = pn) (hnd : nz.Nodup) (hsc : scOk (fdScope st) pn = true) (hsim : SimS V lv qual (fdScope st) nz (execs (fdBody st)) m)
    (hS : ∀ args H P, S args H P → args.length = pn.length ∧ m (startLoc args (nz.length - pn.length)) H (fun fl _ H' => match fl with | .ret v => P v H' | .next => P .none H' | _ => False)) : GMe V lv C n S := by
  obtain ⟨f, a, c⟩ := hf
  exact ⟨f, a, callOk_at hcl c hnz hnd hsc hsim hS⟩
theorem gcl {V : Wd} {lv : Nat} {S : Spec} {C : Addr} {x qual : Str} {st : Stmt} {pn nz : List Str} {m : MS} (hf : ClIs V x C st qual pn) (hcl : V.cl = []) (hnz : nz.take pn.length = pn) (hnd : nz.Nodup) (hsc : scOk (fdScope st) pn = true) (hsim : SimS V lv qual (fdScope st) nz (execs (fdBody st)) m)
    (hS : ∀ args H P, S args H P → args.length = pn.length ∧ m (startLoc args (nz.length - pn.length)) H (fun fl _ H' => match fl with | .ret v => P v H' | .next => P .none H' | _ => False)) : GCl V lv x C S := by
  obtain ⟨f, a, b, c⟩ := hf
  exact ⟨f, a, b, callOk_at hcl c hnz hnd hsc hsim hS⟩
theorem GCl.mono {V : Wd} {lv lv' : Nat} {x : Str} {C : Addr} {S : Spec} (h : GCl V lv x C S) (hl : lv ≤ lv') : GCl V lv' x C S := by
  obtain ⟨f, a, b, c⟩ := h
  exact ⟨f, a, b, c.mono hl⟩

noncomputable def mkAd (cM cP : Addr) : Ad := { cM := cM, cP := cP, put_numberS := put_numberS, put_signedS := put_signedS, put_countedS := put_countedS, check_placeS := check_placeS, barredS := barredS, movesInitS := movesInitS cM, pruneS := pruneS cM, hitS := hitS cM, moveS := moveS cM, pageInitS := pageInitS cM cP, open_S := openS cM cP, close_S := closeS cM cP, go_acrossS := go_acrossS cM cP, go_downS := go_downS cM cP, specialS := specialS cM cP, law_takeS := law_takeS, law_stepsS := law_stepsS, law_writtenS := law_writtenS cM cP, law_signedS := law_signedS, law_moveS := law_moveS, law_runS := law_runS, law_boxS := law_boxS, law_costS := law_costS }
structure AllIs (V : Wd) (cM cP : Addr) : Prop where
  f_put_number : FnIs V "put_number" (top 12) ["octets", "number", "room"]
  f_put_signed : FnIs V "put_signed" (top 13) ["octets", "first", "size"]
  f_put_counted : FnIs V "put_counted" (top 14) ["octets", "first", "number"]
  f_check_place : FnIs V "check_place" (top 15) ["place"]
  f_barred : FnIs V "barred" (top 17) ["state", "used"]
  f__law_take : FnIs V "_law_take" (top 21) ["box", "many"]
  f__law_box : FnIs V "_law_box" (top 20) ["script", "k"]
  f__law_steps : FnIs V "_law_steps" (top 22) ["script"]
  f__law_written : FnIs V "_law_written" (top 23) ["steps"]
  f__law_signed : FnIs V "_law_signed" (top 24) ["octets"]
  f__law_move : FnIs V "_law_move" (top 25) ["opcode", "octets", "state"]
  f__law_run : FnIs V "_law_run" (top 26) ["octets"]
  f__law_cost : FnIs V "_law_cost" (top 27) ["size", "took", "near"]
  m_cM_prune : MeIs V cM "prune" (sub 16 1) "Moves.prune" ["self", "begin"]
  m_cM_hit : MeIs V cM "hit" (sub 16 3) "Moves.hit" ["self", "octets", "size"]
  m_cM_move : MeIs V cM "move" (sub 16 2) "Moves.move" ["self", "octets", "size"]
  m_cP_open : MeIs V cP "open" (sub 18 1) "PageWriter.open" ["self", "depth"]
  m_cP_close : MeIs V cP "close" (sub 18 2) "PageWriter.close" ["self", "begin", "depth"]
  m_cP_go_across : MeIs V cP "go_across" (sub 18 3) "PageWriter.go_across" ["self", "h"]
  m_cP_go_down : MeIs V cP "go_down" (sub 18 4) "PageWriter.go_down" ["self", "v"]
  m_cP_special : MeIs V cP "special" (sub 18 8) "PageWriter.special" ["self", "octets", "h", "v"]
  c_Moves : ClIs V "Moves" cM (sub 16 0) "Moves.__init__" ["self", "plain"]
  c_PageWriter : ClIs V "PageWriter" cP (sub 18 0) "PageWriter.__init__" ["self", "fonts", "depth"]
theorem Wb.cl {V : Wd} {D : Ad} (W : Wb V D) (cl : List (Str × Addr)) : Wb { V with cl := cl } D := { W with }
theorem sim_law {V : Wd} {cM cP : Addr} (hcl : V.cl = []) (W : Wb V (mkAd cM cP)) (b_sum : GBi V "sum" (.builtin "sum")) (I : AllIs V cM cP) {l : Addr} {vs : List Value} {ns : List Int} (hb : V.base.IsList l vs.toArray) (hI : IntsAre vs ns) (hz : ns.length ≤ 63) :
    SimS V 14 "law" (fdScope (top 28)) nz_law (execs (fdBody (top 28))) (m_law (mkAd cM cP) l ns) := by
  have f_put_number : GFn V 8 "put_number" put_numberS := by
    refine gfn I.f_put_number hcl ?_ nd_put_number ?_ (s_put_number W ) (put_number_ok (mkAd cM cP) )
    · rfl
    · rfl
  have f_put_signed : GFn V 9 "put_signed" put_signedS := by
    refine gfn I.f_put_signed hcl ?_ nd_put_signed ?_ (s_put_signed W f_put_number) (put_signed_ok (mkAd cM cP) rfl)
    · rfl
    · rfl
  have f_put_counted : GFn V 9 "put_counted" put_countedS := by
    refine gfn I.f_put_counted hcl ?_ nd_put_counted ?_ (s_put_counted W f_put_number) (put_counted_ok (mkAd cM cP) rfl)
    · rfl
    · rfl
  have f_check_place : GFn V 8 "check_place" check_placeS := by
    refine gfn I.f_check_place hcl ?_ nd_check_place ?_ (s_check_place W ) (check_place_ok (mkAd cM cP) )
    · rfl
    · rfl
  have f_barred : GFn V 8 "barred" barredS := by
    refine gfn I.f_barred hcl ?_ nd_barred ?_ (s_barred W ) (barred_ok (mkAd cM cP) )
    · rfl
    · rfl
  have m_cM_prune : GMe V 8 cM "prune" (pruneS cM) := by
    refine gme I.m_cM_prune hcl ?_ nd_prune ?_ (s_prune W ) (prune_ok (mkAd cM cP) )
    · rfl
    · rfl
  have m_cM_hit : GMe V 8 cM "hit" (hitS cM) := by
    refine gme I.m_cM_hit hcl ?_ nd_hit ?_ (s_hit W ) (hit_ok (mkAd cM cP) )
    · rfl
    · rfl
  have m_cM_move : GMe V 10 cM "move" (moveS cM) := by
    refine gme I.m_cM_move hcl ?_ nd_move ?_ (s_move W (m_cM_hit.mono (by decide)) f_put_signed (f_barred.mono (by decide))) (move_ok (mkAd cM cP) rfl rfl rfl)
    · rfl
    · rfl
  have m_cP_open : GMe V 8 cP "open" (openS cM cP) := by
    refine gme I.m_cP_open hcl ?_ nd_open_ ?_ (s_open_ W ) (open_ok (mkAd cM cP) )
    · rfl
    · rfl
  have m_cP_close : GMe V 9 cP "close" (closeS cM cP) := by
    refine gme I.m_cP_close hcl ?_ nd_close_ ?_ (s_close_ W m_cM_prune) (close_ok (mkAd cM cP) rfl)
    · rfl
    · rfl
  have m_cP_go_across : GMe V 11 cP "go_across" (go_acrossS cM cP) := by
    refine gme I.m_cP_go_across hcl ?_ nd_go_across ?_ (s_go_across W (f_check_place.mono (by decide)) m_cM_move) (go_across_ok (mkAd cM cP) rfl rfl)
    · rfl
    · rfl
  have m_cP_go_down : GMe V 11 cP "go_down" (go_downS cM cP) := by
    refine gme I.m_cP_go_down hcl ?_ nd_go_down ?_ (s_go_down W (f_check_place.mono (by decide)) m_cM_move) (go_down_ok (mkAd cM cP) rfl rfl)
    · rfl
    · rfl
  have m_cP_special : GMe V 12 cP "special" (specialS cM cP) := by
    refine gme I.m_cP_special hcl ?_ nd_special ?_ (s_special W m_cP_go_across m_cP_go_down (f_put_counted.mono (by decide))) (special_ok (mkAd cM cP) rfl rfl rfl)
    · rfl
    · rfl
  have c_Moves : GCl V 8 "Moves" cM (movesInitS cM) := by
    refine gcl I.c_Moves hcl ?_ nd_movesInit ?_ (s_movesInit W ) (movesInit_ok (mkAd cM cP) )
    · rfl
    · rfl
  have c_PageWriter : GCl V 10 "PageWriter" cP (pageInitS cM cP) := by
    refine gcl I.c_PageWriter hcl ?_ nd_pageInit ?_ (s_pageInit W c_Moves) (pageInit_ok (mkAd cM cP) rfl)
    · rfl
    · rfl
  have f__law_take : GFn V 8 "_law_take" law_takeS := by
    refine gfn I.f__law_take hcl ?_ nd_law_take ?_ (s_law_take W ) (law_take_ok (mkAd cM cP) )
    · rfl
    · rfl
  have f__law_box : GFn V 8 "_law_box" law_boxS := by
    refine gfn I.f__law_box hcl ?_ nd_law_box ?_ (s_law_box W b_sum) (law_box_ok (mkAd cM cP) )
    · rfl
    · rfl
  have f__law_steps : GFn V 9 "_law_steps" law_stepsS := by
    refine gfn I.f__law_steps hcl ?_ nd_law_steps ?_ (s_law_steps W f__law_box f__law_take) (law_steps_ok (mkAd cM cP) rfl rfl)
    · rfl
    · rfl
  have f__law_written : GFn V 13 "_law_written" (law_writtenS cM cP) := by
    refine gfn I.f__law_written hcl ?_ nd_law_written ?_ (s_law_written W (c_PageWriter.mono (by decide)) (m_cP_open.mono (by decide)) (m_cP_close.mono (by decide)) m_cP_special) (law_written_ok (mkAd cM cP) rfl rfl rfl rfl)
    · rfl
    · rfl
  have f__law_signed : GFn V 8 "_law_signed" law_signedS := by
    refine gfn I.f__law_signed hcl ?_ nd_law_signed ?_ (s_law_signed W ) (law_signed_ok (mkAd cM cP) )
    · rfl
    · rfl
  have f__law_move : GFn V 9 "_law_move" law_moveS := by
    refine gfn I.f__law_move hcl ?_ nd_law_move ?_ (s_law_move W f__law_signed) (law_move_ok (mkAd cM cP) rfl)
    · rfl
    · rfl
  have f__law_run : GFn V 10 "_law_run" law_runS := by
    refine gfn I.f__law_run hcl ?_ nd_law_run ?_ (s_law_run W f__law_move) (law_run_ok (mkAd cM cP) rfl)
    · rfl
    · rfl
  have f__law_cost : GFn V 8 "_law_cost" law_costS := by
    obtain ⟨f, a, b, c⟩ := I.f__law_cost
    refine ⟨f, a, b, callOk_cost hcl c (m := m_law_cost (mkAd cM cP)) (fun z => ?_) (law_cost_ok (mkAd cM cP))⟩
    exact s_law_cost (V := { V with cl := [(("size" : Str), z)] }) (W.cl _) b_sum rfl
  exact s_law W hb hI hz (f__law_steps.mono (by decide)) f__law_written (f__law_run.mono (by decide)) (f__law_cost.mono (by decide))
end
section
set_option genSizeOf false
set_option genSizeOfSpec false
set_option maxRecDepth 100000
set_option autoImplicit false
theorem fnAt_mk {K : Frag} {f : Addr} {st : Stmt} {qual : Str} {pn : List Str} {dV kV doc pm cdv ct oc : Value} {an od : Option Addr} {osl : Array (Option Value)} (h1 : K.lookup f = some ⟨oc, od, .func (fnOf (fdName st) qual (fdArgs st) (fdBody st) (fdScope st) dV kV doc pm an cdv ct), osl⟩) (h2 : codeIn K cdv qual = true)
    (h3 : ∀ vals : List Value, vals.length = pn.length → bindArgs (fnOf (fdName st) qual (fdArgs st) (fdBody st) (fdScope st) dV kV doc pm an cdv ct) ⟨vals, []⟩ = pure (pn.zip vals)) : FnAt K f st qual pn := ⟨_, _, _, _, _, _, _, _, _, _, h1, h2, h3⟩
theorem end_mk {M : Model} {A : Around} {t : Sem Flow} {Q : Flow → Shared → Prop} {E : Value → Shared → Prop} {s : Shared} {h₀ h₁ : Heap} {L : Addr} {m : Str → Option Value} (_F : Fr h₀ L h₁ m) (h : wpAny M A t (fun f s' => f = .ret (.bool true) ∧ ∃ h' tk mm, Fr h₀ L h' mm ∧ s' = { s with heap := h', toks := tk }) (fun _ _ => False) s)
    (k : ∀ h' tk mm, Fr h₀ L h' mm → Q (.ret (.bool true)) { s with heap := h', toks := tk }) : wpAny M A t Q E s :=
  wpAny_mono h (fun f s' h => by obtain ⟨rfl, h', tk, mm, F, rfl⟩ := h; exact k h' tk mm F) (fun _ _ h => h.elim)
theorem law_end {prog : Program} {w : World} {K : Frag} {p : Program} {loose : List Str} {mean : ExcName → Option Value} {mg mb : Str → Option Value} {b : Heap} {l fa L cM cP : Addr} {vs : List Value} {ns : List Int} {cd : Value} {s : Shared} {A : Around} {nm : Str} {sc : Scope} {body : List Stmt} {m : Str → Option Value}
    (B : Below A b [] b) (X : K.In b) (T : Top p loose mean mg mb b) (F : Fr b L s.heap m) (hm : m = fun x => List.lookup x [(("script" : Str), Value.ref l)]) (N : News b L s.heap []) (hL : b.IsList l vs.toArray) (hI : IntsAre vs ns) (hz : ns.length ≤ 63) (hh : A.handled = none)
    (hd : A.depth + 1 + 14 < recursionLimit) (hu : A.units + 3 + 10 * 14 < cLine) (hn : nm = "law") (hsc : sc = fdScope (top 28)) (hb : body = fdBody (top 28))
    (W : Wb ⟨prog, w, K, p, loose, mean, mg, mb, b, []⟩ (mkAd cM cP)) (b_sum : GBi ⟨prog, w, K, p, loose, mean, mg, mb, b, []⟩ "sum" (.builtin "sum")) (I : AllIs ⟨prog, w, K, p, loose, mean, mg, mb, b, []⟩ cM cP) :
    wpAny (model prog w) (A.deeper (envOf nm sc L fa cd)) (execs body (envOf nm sc L fa cd)) (fun f s' => f = .ret (.bool true) ∧ ∃ h' tk mm, Fr b L h' mm ∧ s' = { s with heap := h', toks := tk }) (fun _ _ => False) s := by
  subst hn hsc hb hm
  have hs := sim_law (V := ⟨prog, w, K, p, loose, mean, mg, mb, b, []⟩) rfl W b_sum I (l := l) (vs := vs) (ns := ns) hL hI hz
  have hl := law_ok (mkAd cM cP) rfl rfl rfl rfl l ns hz
  let C : FC ⟨prog, w, K, p, loose, mean, mg, mb, b, []⟩ 14 "law" (fdScope (top 28)) := { L := L, a := fa, cd := cd, A := A.deeper (envOf "law" (fdScope (top 28)) L fa cd), A₀ := A, outer := [], h₀ := b, B := B, X := X, T := T, hA := Around.frames_deeper B.stack, hh := hh, hd := by show A.depth + 1 + 14 < _; omega, hu := by show A.units + 3 + 10 * 14 < _; omega }
  refine hs C _ _ _ hl s [] _ _ _ F ?_ ⟨[], N, List.nodup_nil, fun a o h => (by cases h), fun p hp => (by cases hp)⟩ ?_
  · refine ⟨rfl, fun i x v hi hv => ?_⟩
    match i, hi, hv with
    | 0, hi, hv =>
      cases hi; cases hv
      exact ⟨.ref l, rfl, .ref _⟩
    | n + 1, hi, hv =>
      exfalso
      have : (startLoc [AV.ref l] 15)[n + 1]? = (List.replicate 15 (none : Option AV))[n]? := rfl
      rw [this, List.getElem?_replicate] at hv
      split at hv <;> cases hv
  · intro f fl ρ' H' h' tk mm' rf hP F' _ _
    cases hP
    cases rf with
    | ret r => cases r; exact ⟨rfl, h', tk, mm', F', rfl⟩
theorem gbi_mk {V : Wd} {x : Str} {f : Value} (h1 : nsIn V.K mainGlobals x = some none) (h2 : bootBuiltins x = some f) (h3 : x ≠ "__name__") (h4 : (∃ id, f = .builtin id) ∨ ∃ T, f = .type T) : GBi V x f := ⟨h1, h2, h3, h4⟩
theorem fnIs_mk {V : Wd} {x : Str} {st : Stmt} {pn : List Str} (f : Addr) (h1 : nsIn V.K mainGlobals x = some (some (.ref f))) (h2 : keepIn V.K (.ref f) = true) (h3 : FnAt V.K f st x pn) : FnIs V x st pn := ⟨f, h1, h2, h3⟩
theorem meIs_mk {V : Wd} {C : Addr} {n : Str} {st : Stmt} {qual : Str} {pn : List Str} (f : Addr) (h1 : plainGet V.K C n = true) (h2 : findIn V.K (.ref C) n = some (some (.ref f))) (h3 : isFn V.K (.ref f) = true) (h4 : keepIn V.K (.ref f) = true) (h5 : FnAt V.K f st qual pn) : MeIs V C n st qual pn := ⟨f, ⟨h1, h2, h3, h4⟩, h5⟩
theorem clIs_mk {V : Wd} {C : Addr} {x : Str} {st : Stmt} {qual : Str} {pn : List Str} (f : Addr) (h0 : nsIn V.K mainGlobals x = some (some (.ref C))) (h1 : makesIn V.K C = true) (h2 : findIn V.K (.ref C) "__init__" = some (some (.ref f))) (h3 : isFn V.K (.ref f) = true) (h4 : keepIn V.K (.ref C) = true) (h5 : FnAt V.K f st qual pn) : ClIs V x C st qual pn := ⟨f, h0, ⟨h1, h2, h3, h4⟩, h5⟩
end
section
set_option maxRecDepth 100000
set_option autoImplicit false
theorem fnAt_seen {K : Frag} {q : Str} {f : Addr} {st : Stmt} {pn : List Str} (h : fnSeen K q f = fnGood q st)
    (hb : ∀ (doc pm cdv ct : Value) (an : Option Addr) (vals : List Value), vals.length = pn.length → bindArgs (fnOf (fdName st) q (fdArgs st) (fdBody st) (fdScope st) .none .none doc pm an cdv ct) ⟨vals, []⟩ = pure (pn.zip vals)) : FnAt K f st q pn := by
  unfold fnSeen at h
  split at h
  · rename_i oc od d osl e
    obtain ⟨d1, d2, d3, d4, d5, d6, d7, d8, d9, d10, d11, d12, d13, d14, d15⟩ := d
    simp only [fnGood, Option.some.injEq, FnPart.mk.injEq] at h
    obtain ⟨h1, h2, h3, h4, h5, h6, h7, h8, h9, h10, h11⟩ := h
    subst h1 h2 h3 h4 h5 h6 h7 h8 h9 h10
    exact ⟨_, _, _, _, _, _, _, _, _, _, e, h11, fun vals hv => hb _ _ _ _ _ vals hv⟩
  · cases h
theorem intAt_eq {x : Option (Option Value)} {i : Int} (h : intAt x = some i) : ∃ t, x = some (some (.int i t)) := by
  unfold intAt at h
  split at h
  · cases h; exact ⟨_, rfl⟩
  · cases h
theorem attr_ok {K : Frag} {C : Addr} {n m : Str} (h1 : plainGet K C m = true) (h2 : hasDictIn K C = true) (h3 : findIn K (.ref C) n = some none) : attrOk K C n = true := by
  unfold attrOk
  have : plainGet K C n = true := h1
  rw [this, h2, h3]; rfl
theorem len1 {vals : List Value} (h : vals.length = 1) : ∃ a, vals = [a] := List.length_eq_one_iff.mp h
theorem lenC {n : Nat} {vals : List Value} (h : vals.length = n + 1) : ∃ a r, vals = a :: r ∧ r.length = n :=
  (List.exists_cons_of_length_eq_add_one h).elim fun a q => q.elim fun r e => ⟨a, r, e, Nat.succ.inj ((congrArg List.length e).symm.trans h)⟩
theorem len2 {vals : List Value} (h : vals.length = 2) : ∃ a b, vals = [a, b] :=
  (lenC h).elim fun a q => q.elim fun _ e => (len1 e.2).elim fun b f => ⟨a, b, e.1.trans (congrArg (a :: ·) f)⟩
theorem len3 {vals : List Value} (h : vals.length = 3) : ∃ a b c, vals = [a, b, c] :=
  (lenC h).elim fun a q => q.elim fun _ e => (len2 e.2).elim fun b t => t.elim fun c f => ⟨a, b, c, e.1.trans (congrArg (a :: ·) f)⟩
theorem len4 {vals : List Value} (h : vals.length = 4) : ∃ a b c d, vals = [a, b, c, d] :=
  (lenC h).elim fun a q => q.elim fun _ e => (len3 e.2).elim fun b t => t.elim fun c u => u.elim fun d f => ⟨a, b, c, d, e.1.trans (congrArg (a :: ·) f)⟩
theorem pick {α β : Type} {S T : α} (h : S = T) (f : α → β) {a b : β} (h1 : f S = a) (h2 : f T = b) : a = b := by rw [← h1, ← h2, h]
section
variable {prog : Program} {w : World} {K : Frag} {p : Program} {loose : List Str} {mean : ExcName → Option Value} {mg mb : Str → Option Value} {b : Heap}
theorem fact_wb (h : kSeen K = kGood) : Wb ⟨prog, w, K, p, loose, mean, mg, mb, b, []⟩ (mkAd 152 236) := {
    a_cM_plain := attr_ok (m := "") (pick h (fun S => S.mm.plain) rfl rfl) (pick h (fun S => S.mm.dict) rfl rfl) (pick h (fun S => (S.mm.finds[0]?).getD none) rfl rfl)
    a_cM_rows := attr_ok (m := "") (pick h (fun S => S.mm.plain) rfl rfl) (pick h (fun S => S.mm.dict) rfl rfl) (pick h (fun S => (S.mm.finds[1]?).getD none) rfl rfl)
    a_cP_across := attr_ok (m := "") (pick h (fun S => S.pp.plain) rfl rfl) (pick h (fun S => S.pp.dict) rfl rfl) (pick h (fun S => (S.pp.finds[0]?).getD none) rfl rfl)
    a_cP_deepest := attr_ok (m := "") (pick h (fun S => S.pp.plain) rfl rfl) (pick h (fun S => S.pp.dict) rfl rfl) (pick h (fun S => (S.pp.finds[1]?).getD none) rfl rfl)
    a_cP_depth := attr_ok (m := "") (pick h (fun S => S.pp.plain) rfl rfl) (pick h (fun S => S.pp.dict) rfl rfl) (pick h (fun S => (S.pp.finds[2]?).getD none) rfl rfl)
    a_cP_down := attr_ok (m := "") (pick h (fun S => S.pp.plain) rfl rfl) (pick h (fun S => S.pp.dict) rfl rfl) (pick h (fun S => (S.pp.finds[3]?).getD none) rfl rfl)
    a_cP_h := attr_ok (m := "") (pick h (fun S => S.pp.plain) rfl rfl) (pick h (fun S => S.pp.dict) rfl rfl) (pick h (fun S => (S.pp.finds[4]?).getD none) rfl rfl)
    a_cP_octets := attr_ok (m := "") (pick h (fun S => S.pp.plain) rfl rfl) (pick h (fun S => S.pp.dict) rfl rfl) (pick h (fun S => (S.pp.finds[5]?).getD none) rfl rfl)
    a_cP_v := attr_ok (m := "") (pick h (fun S => S.pp.plain) rfl rfl) (pick h (fun S => S.pp.dict) rfl rfl) (pick h (fun S => (S.pp.finds[6]?).getD none) rfl rfl)
    b_abs := gbi_mk (pick h (fun S => (S.bis[0]?).getD none) rfl rfl) (by boot_by_name) (by decide) (.inl ⟨_, rfl⟩)
    b_bytes := gbi_mk (pick h (fun S => (S.bis[1]?).getD none) rfl rfl) (by boot_by_name) (by decide) (.inr ⟨_, rfl⟩)
    b_dict := gbi_mk (pick h (fun S => (S.bis[2]?).getD none) rfl rfl) (by boot_by_name) (by decide) (.inr ⟨_, rfl⟩)
    b_int := gbi_mk (pick h (fun S => (S.bis[3]?).getD none) rfl rfl) (by boot_by_name) (by decide) (.inr ⟨_, rfl⟩)
    b_len := gbi_mk (pick h (fun S => (S.bis[4]?).getD none) rfl rfl) (by boot_by_name) (by decide) (.inl ⟨_, rfl⟩)
    b_list := gbi_mk (pick h (fun S => (S.bis[5]?).getD none) rfl rfl) (by boot_by_name) (by decide) (.inr ⟨_, rfl⟩)
    b_max := gbi_mk (pick h (fun S => (S.bis[6]?).getD none) rfl rfl) (by boot_by_name) (by decide) (.inl ⟨_, rfl⟩)
    b_range := pick h (fun S => (S.bis[7]?).getD none) rfl rfl
    n_DOWN_1 := intAt_eq (pick h (fun S => (S.nums[0]?).getD none) rfl rfl)
    n_FIRST_AGAIN := intAt_eq (pick h (fun S => (S.nums[1]?).getD none) rfl rfl)
    n_FIRST_FREE := intAt_eq (pick h (fun S => (S.nums[2]?).getD none) rfl rfl)
    n_FIRST_SEEN := intAt_eq (pick h (fun S => (S.nums[3]?).getD none) rfl rfl)
    n_FIRST_SET := intAt_eq (pick h (fun S => (S.nums[4]?).getD none) rfl rfl)
    n_FIXED := intAt_eq (pick h (fun S => (S.nums[5]?).getD none) rfl rfl)
    n_FREE := intAt_eq (pick h (fun S => (S.nums[6]?).getD none) rfl rfl)
    n_IS_FIRST := intAt_eq (pick h (fun S => (S.nums[7]?).getD none) rfl rfl)
    n_IS_SECOND := intAt_eq (pick h (fun S => (S.nums[8]?).getD none) rfl rfl)
    n_MAX_DIMEN := intAt_eq (pick h (fun S => (S.nums[9]?).getD none) rfl rfl)
    n_NONE_SEEN := intAt_eq (pick h (fun S => (S.nums[10]?).getD none) rfl rfl)
    n_POP := intAt_eq (pick h (fun S => (S.nums[11]?).getD none) rfl rfl)
    n_PUSH := intAt_eq (pick h (fun S => (S.nums[12]?).getD none) rfl rfl)
    n_RIGHT_1 := intAt_eq (pick h (fun S => (S.nums[13]?).getD none) rfl rfl)
    n_SECOND_AGAIN := intAt_eq (pick h (fun S => (S.nums[14]?).getD none) rfl rfl)
    n_SECOND_FREE := intAt_eq (pick h (fun S => (S.nums[15]?).getD none) rfl rfl)
    n_SECOND_SEEN := intAt_eq (pick h (fun S => (S.nums[16]?).getD none) rfl rfl)
    n_SECOND_SET := intAt_eq (pick h (fun S => (S.nums[17]?).getD none) rfl rfl)
    n_SPECIAL_1 := intAt_eq (pick h (fun S => (S.nums[18]?).getD none) rfl rfl)
    s_cM_plain := ⟨pick h (fun S => S.mm.setattr) rfl rfl, pick h (fun S => S.mm.over) rfl rfl, pick h (fun S => (S.mm.takers[0]?).getD none) rfl rfl, pick h (fun S => S.mm.dict) rfl rfl⟩
    s_cM_rows := ⟨pick h (fun S => S.mm.setattr) rfl rfl, pick h (fun S => S.mm.over) rfl rfl, pick h (fun S => (S.mm.takers[1]?).getD none) rfl rfl, pick h (fun S => S.mm.dict) rfl rfl⟩
    s_cP_across := ⟨pick h (fun S => S.pp.setattr) rfl rfl, pick h (fun S => S.pp.over) rfl rfl, pick h (fun S => (S.pp.takers[0]?).getD none) rfl rfl, pick h (fun S => S.pp.dict) rfl rfl⟩
    s_cP_deepest := ⟨pick h (fun S => S.pp.setattr) rfl rfl, pick h (fun S => S.pp.over) rfl rfl, pick h (fun S => (S.pp.takers[1]?).getD none) rfl rfl, pick h (fun S => S.pp.dict) rfl rfl⟩
    s_cP_depth := ⟨pick h (fun S => S.pp.setattr) rfl rfl, pick h (fun S => S.pp.over) rfl rfl, pick h (fun S => (S.pp.takers[2]?).getD none) rfl rfl, pick h (fun S => S.pp.dict) rfl rfl⟩
    s_cP_down := ⟨pick h (fun S => S.pp.setattr) rfl rfl, pick h (fun S => S.pp.over) rfl rfl, pick h (fun S => (S.pp.takers[3]?).getD none) rfl rfl, pick h (fun S => S.pp.dict) rfl rfl⟩
    s_cP_h := ⟨pick h (fun S => S.pp.setattr) rfl rfl, pick h (fun S => S.pp.over) rfl rfl, pick h (fun S => (S.pp.takers[4]?).getD none) rfl rfl, pick h (fun S => S.pp.dict) rfl rfl⟩
    s_cP_octets := ⟨pick h (fun S => S.pp.setattr) rfl rfl, pick h (fun S => S.pp.over) rfl rfl, pick h (fun S => (S.pp.takers[5]?).getD none) rfl rfl, pick h (fun S => S.pp.dict) rfl rfl⟩
    s_cP_v := ⟨pick h (fun S => S.pp.setattr) rfl rfl, pick h (fun S => S.pp.over) rfl rfl, pick h (fun S => (S.pp.takers[6]?).getD none) rfl rfl, pick h (fun S => S.pp.dict) rfl rfl⟩
    s_cP_font := ⟨pick h (fun S => S.pp.setattr) rfl rfl, pick h (fun S => S.pp.over) rfl rfl, pick h (fun S => (S.pp.takers[7]?).getD none) rfl rfl, pick h (fun S => S.pp.dict) rfl rfl⟩
    s_cP_fonts := ⟨pick h (fun S => S.pp.setattr) rfl rfl, pick h (fun S => S.pp.over) rfl rfl, pick h (fun S => (S.pp.takers[8]?).getD none) rfl rfl, pick h (fun S => S.pp.dict) rfl rfl⟩ }
theorem fact_sum (h : kSeen K = kGood) : GBi ⟨prog, w, K, p, loose, mean, mg, mb, b, []⟩ "sum" (.builtin "sum") := gbi_mk (pick h (fun S => (S.bis[8]?).getD none) rfl rfl) (by boot_by_name) (by decide) (.inl ⟨_, rfl⟩)
theorem fact_fn {x : Str} {st : Stmt} {f : Addr} {pn : List Str} (h : (nsIn K mainGlobals x, keepIn K (.ref f), fnSeen K x f) = (some (some (.ref f)), true, fnGood x st))
    (hb : ∀ (doc pm cdv ct : Value) (an : Option Addr) (vals : List Value), vals.length = pn.length → bindArgs (fnOf (fdName st) x (fdArgs st) (fdBody st) (fdScope st) .none .none doc pm an cdv ct) ⟨vals, []⟩ = pure (pn.zip vals)) : FnIs ⟨prog, w, K, p, loose, mean, mg, mb, b, []⟩ x st pn :=
  ⟨f, congrArg (·.1) h, congrArg (·.2.1) h, fnAt_seen (congrArg (·.2.2) h) hb⟩
theorem fact_me {C : Addr} {n q : Str} {st : Stmt} {f : Addr} {pn : List Str} (h0 : plainGet K C "" = true) (h : (findIn K (.ref C) n, isFn K (.ref f), keepIn K (.ref f), fnSeen K q f) = (some (some (.ref f)), true, true, fnGood q st))
    (hb : ∀ (doc pm cdv ct : Value) (an : Option Addr) (vals : List Value), vals.length = pn.length → bindArgs (fnOf (fdName st) q (fdArgs st) (fdBody st) (fdScope st) .none .none doc pm an cdv ct) ⟨vals, []⟩ = pure (pn.zip vals)) : MeIs ⟨prog, w, K, p, loose, mean, mg, mb, b, []⟩ C n st q pn :=
  ⟨f, ⟨h0, congrArg (·.1) h, congrArg (·.2.1) h, congrArg (·.2.2.1) h⟩, fnAt_seen (congrArg (·.2.2.2) h) hb⟩
theorem fact_cl {C : Addr} {n q : Str} {st : Stmt} {f : Addr} {pn : List Str} (hn : nsIn K mainGlobals n = some (some (.ref C))) (h1 : makesIn K C = true) (h2 : keepIn K (.ref C) = true) (h : (findIn K (.ref C) "__init__", isFn K (.ref f), keepIn K (.ref f), fnSeen K q f) = (some (some (.ref f)), true, true, fnGood q st))
    (hb : ∀ (doc pm cdv ct : Value) (an : Option Addr) (vals : List Value), vals.length = pn.length → bindArgs (fnOf (fdName st) q (fdArgs st) (fdBody st) (fdScope st) .none .none doc pm an cdv ct) ⟨vals, []⟩ = pure (pn.zip vals)) : ClIs ⟨prog, w, K, p, loose, mean, mg, mb, b, []⟩ n C st q pn :=
  ⟨f, hn, ⟨h1, congrArg (·.1) h, congrArg (·.2.1) h, h2⟩, fnAt_seen (congrArg (·.2.2.2) h) hb⟩
theorem fact_all (h : kSeen K = kGood) : AllIs ⟨prog, w, K, p, loose, mean, mg, mb, b, []⟩ 152 236 := {
    f_put_number := fact_fn (pick h (fun S => (S.fns[0]?).getD (none, false, none)) rfl rfl) fun _ _ _ _ _ vals h => by obtain ⟨a, b, c, rfl⟩ := len3 h; rfl
    f_put_signed := fact_fn (pick h (fun S => (S.fns[1]?).getD (none, false, none)) rfl rfl) fun _ _ _ _ _ vals h => by obtain ⟨a, b, c, rfl⟩ := len3 h; rfl
    f_put_counted := fact_fn (pick h (fun S => (S.fns[2]?).getD (none, false, none)) rfl rfl) fun _ _ _ _ _ vals h => by obtain ⟨a, b, c, rfl⟩ := len3 h; rfl
    f_check_place := fact_fn (pick h (fun S => (S.fns[3]?).getD (none, false, none)) rfl rfl) fun _ _ _ _ _ vals h => by obtain ⟨a, rfl⟩ := len1 h; rfl
    f_barred := fact_fn (pick h (fun S => (S.fns[4]?).getD (none, false, none)) rfl rfl) fun _ _ _ _ _ vals h => by obtain ⟨a, b, rfl⟩ := len2 h; rfl
    f__law_box := fact_fn (pick h (fun S => (S.fns[5]?).getD (none, false, none)) rfl rfl) fun _ _ _ _ _ vals h => by obtain ⟨a, b, rfl⟩ := len2 h; rfl
    f__law_take := fact_fn (pick h (fun S => (S.fns[6]?).getD (none, false, none)) rfl rfl) fun _ _ _ _ _ vals h => by obtain ⟨a, b, rfl⟩ := len2 h; rfl
    f__law_steps := fact_fn (pick h (fun S => (S.fns[7]?).getD (none, false, none)) rfl rfl) fun _ _ _ _ _ vals h => by obtain ⟨a, rfl⟩ := len1 h; rfl
    f__law_written := fact_fn (pick h (fun S => (S.fns[8]?).getD (none, false, none)) rfl rfl) fun _ _ _ _ _ vals h => by obtain ⟨a, rfl⟩ := len1 h; rfl
    f__law_signed := fact_fn (pick h (fun S => (S.fns[9]?).getD (none, false, none)) rfl rfl) fun _ _ _ _ _ vals h => by obtain ⟨a, rfl⟩ := len1 h; rfl
    f__law_move := fact_fn (pick h (fun S => (S.fns[10]?).getD (none, false, none)) rfl rfl) fun _ _ _ _ _ vals h => by obtain ⟨a, b, c, rfl⟩ := len3 h; rfl
    f__law_run := fact_fn (pick h (fun S => (S.fns[11]?).getD (none, false, none)) rfl rfl) fun _ _ _ _ _ vals h => by obtain ⟨a, rfl⟩ := len1 h; rfl
    f__law_cost := fact_fn (pick h (fun S => (S.fns[12]?).getD (none, false, none)) rfl rfl) fun _ _ _ _ _ vals h => by obtain ⟨a, b, c, rfl⟩ := len3 h; rfl
    m_cM_prune := fact_me (pick h (fun S => S.mm.plain) rfl rfl) (pick h (fun S => (S.mm.meths[0]?).getD (none, false, false, none)) rfl rfl) fun _ _ _ _ _ vals h => by obtain ⟨a, b, rfl⟩ := len2 h; rfl
    m_cM_hit := fact_me (pick h (fun S => S.mm.plain) rfl rfl) (pick h (fun S => (S.mm.meths[1]?).getD (none, false, false, none)) rfl rfl) fun _ _ _ _ _ vals h => by obtain ⟨a, b, c, rfl⟩ := len3 h; rfl
    m_cM_move := fact_me (pick h (fun S => S.mm.plain) rfl rfl) (pick h (fun S => (S.mm.meths[2]?).getD (none, false, false, none)) rfl rfl) fun _ _ _ _ _ vals h => by obtain ⟨a, b, c, rfl⟩ := len3 h; rfl
    m_cP_open := fact_me (pick h (fun S => S.pp.plain) rfl rfl) (pick h (fun S => (S.pp.meths[0]?).getD (none, false, false, none)) rfl rfl) fun _ _ _ _ _ vals h => by obtain ⟨a, b, rfl⟩ := len2 h; rfl
    m_cP_close := fact_me (pick h (fun S => S.pp.plain) rfl rfl) (pick h (fun S => (S.pp.meths[1]?).getD (none, false, false, none)) rfl rfl) fun _ _ _ _ _ vals h => by obtain ⟨a, b, c, rfl⟩ := len3 h; rfl
    m_cP_go_across := fact_me (pick h (fun S => S.pp.plain) rfl rfl) (pick h (fun S => (S.pp.meths[2]?).getD (none, false, false, none)) rfl rfl) fun _ _ _ _ _ vals h => by obtain ⟨a, b, rfl⟩ := len2 h; rfl
    m_cP_go_down := fact_me (pick h (fun S => S.pp.plain) rfl rfl) (pick h (fun S => (S.pp.meths[3]?).getD (none, false, false, none)) rfl rfl) fun _ _ _ _ _ vals h => by obtain ⟨a, b, rfl⟩ := len2 h; rfl
    m_cP_special := fact_me (pick h (fun S => S.pp.plain) rfl rfl) (pick h (fun S => (S.pp.meths[4]?).getD (none, false, false, none)) rfl rfl) fun _ _ _ _ _ vals h => by obtain ⟨a, b, c, d, rfl⟩ := len4 h; rfl
    c_Moves := fact_cl (pick h (fun S => S.clsM) rfl rfl) (pick h (fun S => S.mm.makes) rfl rfl) (pick h (fun S => S.mm.keep) rfl rfl) (pick h (fun S => (S.mm.meths[3]?).getD (none, false, false, none)) rfl rfl) fun _ _ _ _ _ vals h => by obtain ⟨a, b, rfl⟩ := len2 h; rfl
    c_PageWriter := fact_cl (pick h (fun S => S.clsP) rfl rfl) (pick h (fun S => S.pp.makes) rfl rfl) (pick h (fun S => S.pp.keep) rfl rfl) (pick h (fun S => (S.pp.meths[5]?).getD (none, false, false, none)) rfl rfl) fun _ _ _ _ _ vals h => by obtain ⟨a, b, c, rfl⟩ := len3 h; rfl }
end
end
section
set_option maxRecDepth 100000
set_option autoImplicit false
open PySem.Challenge (rw_sq0033_01 pw_sq0033_01)
section
variable {tb : String → Option Builtin} {p : Program} {w : World} {n₀ : Nat} {ann : Option Value}
theorem piece_take {n N j : Nat} {s s' r : Shared} {l : List Stmt} {env : Env} {c : Code} {pos p' q : Pos} (h : segRun tb p w n₀ ann 1 n s (piecesOf (l.take j) env c pos [topFrame q]) = some (.next, s', c, p'))
    (k : topRun tb p w n₀ ann N s' (restOf (l.drop j) env c p' [topFrame q]) = some r) : topRun tb p w n₀ ann (n + N) s (restOf l env c pos [topFrame q]) = some r :=
  (congrArg (fun x => topRun tb p w n₀ ann (n + N) s (restOf x env c pos [topFrame q])) (List.take_append_drop j l)).symm.trans (piece_app h k)
theorem piece_end {n N : Nat} {s s' r : Shared} {l : List Stmt} {env : Env} {c : Code} {pos p' q : Pos} (h : segRun tb p w n₀ ann 1 n s (piecesOf l env c pos [topFrame q]) = some (.next, s', c, p'))
    (k : topRun tb p w n₀ ann N s' (restOf [] env c p' [topFrame q]) = some r) : topRun tb p w n₀ ann (n + N) s (restOf l env c pos [topFrame q]) = some r :=
  (congrArg (fun x => topRun tb p w n₀ ann (n + N) s (restOf x env c pos [topFrame q])) (List.append_nil l)).symm.trans (piece_app h k)
/-- a run of the top that ends somewhere, and what is seen there -/
theorem from_run {N k : Nat} {s₀ s : Shared} {α : Type} {f : Shared → α} {x : α} (z : (s₀.heap.isNs mainGlobals && s₀.gens.size == 0, s₀.heap.objs.size, s₀.heap.nsMap mainGlobals "__annotations__") = (true, n₀, ann))
    (r : topRun tb p w n₀ ann N s₀ (topStub p) = some s) (l : ((staticsOk (importedModules p.main.body) s₀.heap s.heap && namesBound p s.heap && gensDone s && laidKept s₀.heap s.heap), f s) = (true, x)) : (topFrom tb p w (N + k) s₀).map f = some x := by
  have z1 := congrArg Prod.fst z
  have z2 := congrArg (fun y => y.2.1) z
  have z3 := congrArg (fun y => y.2.2) z
  have l1 := congrArg Prod.fst l
  have l2 := congrArg Prod.snd l
  dsimp only at z1 z2 z3 l1 l2
  simp only [topFrom, z1, z2, z3, topRun_mono k _ _ _ _ r, Option.bind_some, l1, Option.map_some, l2]
end
theorem run_C (w : World) : ∀ os, segRunT treeTable myProg w 11 (some (.ref 6)) 1 704 (sB w os) (piecesOf ((myBody.drop 7).take 5) myEnv myCode posB [topFrame ⟨0, 0, 0, 0⟩]) = some (.next, sC w os, myCode, posC) :=
  byRow2 "special-get-raises" (P := fun w => ∀ os, segRunT treeTable myProg w 11 (some (.ref 6)) 1 704 (sB w os) (piecesOf ((myBody.drop 7).take 5) myEnv myCode posB [topFrame ⟨0, 0, 0, 0⟩]) = some (.next, sC w os, myCode, posC)) run_CF run_CT w
theorem run_end (w : World) (os : OsState) : ∃ s : SharedT, topRun treeTable myProg w 11 (some (.ref 6)) (12 + (1 + (715 + (704 + (982 + (400 + 3)))))) ⟨boot_heap w.params, Array.mk [], boot_drawn, boot_toks, os⟩ (topStub myProg) = some s.abs ∧ seenT s w = (true, openGood myView myLoose, Hook.val (myHook myAs) w) := by
  obtain ⟨⟨f, s, c, q⟩, h1, h2⟩ := Option.map_eq_some_iff.mp (run_E w os)
  simp only [Prod.mk.injEq] at h2
  obtain ⟨rfl, h2, rfl, rfl⟩ := h2
  exact ⟨s, go_top (run_A w os) (piece_block (segRun_of (run_block w os)) (piece_take (segRun_of (run_B w os)) (piece_take (segRun_of (run_C w os)) (piece_take (segRun_of (run_D w os)) (piece_end (segRun_of h1) (run_out w s)))))), h2⟩
theorem myLeft : LeftO rw_sq0033_01.row.prog myView myLoose myXt (Hook.obs (myHook myAs)) (Hook.val (myHook myAs)) 5564 := by
  intro w
  obtain ⟨⟨h, gs, d, k, os⟩, hs, hv⟩ := Option.map_eq_some_iff.mp (boot_open (p := rw_sq0033_01.row.prog) (N := 5564) (by kernel_rfl) (by kernel_rfl) (fun s => by kernel_rfl) w)
  simp only [Prod.mk.injEq] at hv
  obtain ⟨rfl, rfl, rfl, rfl⟩ := hv
  unfold openEnds
  rw [hs, Option.bind_some]
  obtain ⟨s, r, l⟩ := run_end w os
  exact from_run (k := 2747) (boot_size w) r l

end
end Mine
open Mine in
set_option maxHeartbeats 4000000 in
set_option maxRecDepth 100000 in
theorem PySem.Challenge.cw_sq0033_01_holds : PySem.Challenge.rw_sq0033_01.Holds := by
  w_on
  refine holds_law said_law fun said => ?_
  refine holds_open (q := myView) (loose := myLoose) (Xt := myXt) (XP := XL myView myLv) (Yf := Hook.obs (myHook myAs)) (Ya := Hook.val (myHook myAs)) (YP := Hook.says (myHook myAs)) (N := 5564) (d := ⟨"law", fdArgs (top 28), fdBody (top 28), fdScope (top 28), ⟨226, 0, 238, 15⟩⟩) (kwd := []) myLeft (Hook.of (myHook myAs)) (Hook.keeps (myHook myAs)) (fun s e => xl_of s (xt1 s e)) XL.keeps ?a1 ?a2 ?a3 (fun s e => recFacts_of (xt2 s e)) ?a4 ?a5 ?a6 ?a7 ?hw ?hc
  case a1 => kernel_rfl
  case a2 => kernel_rfl
  case a3 => kernel_rfl
  case a4 => kernel_rfl
  case a5 => first | assumption | decide +kernel
  case a6 => decide +kernel
  case a7 => exact ⟨rfl, rfl, rfl, rfl, rfl, by decide +kernel⟩
  case hw => w_witness2
  w_strict (
    intro w s₀ s₁ mg mb G Y fa o pm cd doc dV kV ho hd hcd hD hmg hg args vals as hpre hlay hrd hwl hlo
    obtain ⟨K, KX, KY⟩ := Y
    refine Ground.open G ?_
    intro T B D TE TW
    clear B D TE TW
    have TA := at_of_top T
    clear hmg
    wrow_args hpre hlay hrd hwl hlo
    refine enter_call ?_
    w_top on
    refine codeAny_mono ?_ (fun _ _ g => GoodW.toG g)
    have K0 := below_caller (Top.heap T)
    w_call any ho hd hcd hD T F
    clear hd TA
    rename Fr _ _ _ _ => kF
    refine Mine.end_mk kF ?_ ?_
    case refine_2 =>
      intro h' tk mm kF2
      clear kF
      dsimp only
      wrow_close
    rename Below _ _ _ _ => kB
    rename News _ _ _ _ => kN
    rename Top _ _ _ _ _ _ => kT
    rename IntsAre _ _ => kI
    rename Heap.IsList _ _ _ => kL
    refine Mine.law_end (cM := 152) (cP := 236) kB KX kT kF ?z_hm kN kL kI ?z_hz ?z_hh ?z_hd ?z_hu ?z_hn ?z_hsc ?z_hb (fact_wb KY) (fact_sum KY) (fact_all KY)
    case z_hm => rfl
    case z_hz => omega
    case z_hh => rfl
    case z_hd => decide
    case z_hu => decide
    case z_hn => rfl
    case z_hsc => rfl
    case z_hb => rfl)
