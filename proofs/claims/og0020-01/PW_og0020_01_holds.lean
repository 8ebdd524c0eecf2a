import PyProof.Rows.All
import Wide.All
import OpenK.AllK
import Wide.FinOn
import PyProof.AttrMissHeap
import KE.KRevIter
import Lean
import PySem.Challenge.RW_og0020_01
open PySem PySem.W PySem.Calls PyProof.Rows
set_option Elab.async false
set_option maxRecDepth 100000
set_option linter.all false
/-! The law of splits_of holds. The road: the top of the text is run in the kernel (Mine.left); a small evaluator of
deep values (evs, blk, callF) is sound for the model (callF_sound); what it answers for the law is shown in plain terms
(law_all), with roads that the kernel plays (P.play); law and model are joined in walk and row_holds. -/
namespace Mine
noncomputable def runT (tb : String → Option Builtin) (p : Program) (w : World) (n₀ : Nat) (ann : Option Value) : Nat → SharedT → Thread → Option SharedT
  | 0, _, _ => none
  | n + 1, s, t => match through t with
    | true => some s
    | false => match stepOk n₀ ann t with
      | false => none
      | true => match stepT (denote tb) p w s t with
        | some (s', t') => runT tb p w n₀ ann n s' t'
        | none => none
theorem runT_of {tb : String → Option Builtin} {p : Program} {w : World} {n₀ : Nat} {ann : Option Value} : ∀ {n : Nat} {s s' : SharedT} {t : Thread},
    runT tb p w n₀ ann n s t = some s' → topRun tb p w n₀ ann n s.abs t = some s'.abs
  | 0, _, _, _, h => by cases h
  | n + 1, s, s', t, h => by
    unfold runT at h
    unfold topRun
    cases ht : through t with
    | true => rw [ht] at h; cases h; rfl
    | false =>
      rw [ht] at h
      cases hk : stepOk n₀ ann t with
      | false => rw [hk] at h; cases h
      | true =>
        rw [hk] at h
        dsimp only at h ⊢
        cases hs : stepT (denote tb) p w s t with
        | none => rw [hs] at h; cases h
        | some q =>
          obtain ⟨s₂, t₂⟩ := q
          rw [hs] at h
          rw [stepT_spec hs]
          exact runT_of h
noncomputable def tree0 (P : Params) : BT :=
  .node (boot_o_0 P)
    (.node (boot_o_1 P) (.node (boot_o_3 P) (.node (boot_o_7 P) .nil .nil) .nil) (.node (boot_o_5 P) (.node (boot_o_9 P) .nil .nil) .nil))
    (.node (boot_o_2 P) (.node (boot_o_4 P) (.node (boot_o_8 P) .nil .nil) .nil) (.node (boot_o_6 P) (.node (boot_o_10 P) .nil .nil) .nil))
noncomputable def life0 (P : Params) : Life := (boot_heap P).life
theorem tree0_ok (P : Params) : boot_heap P = absHeap (tree0 P) 11 (life0 P) := by kernel_rfl
noncomputable def s0 (w : World) (os : OsState) : SharedT := ⟨tree0 w.params, 11, life0 w.params, Array.mk [], boot_drawn, boot_toks, os⟩
noncomputable def peekT (S : SharedT) (a : Nat) : Option Obj := match Nat.blt a S.n with
  | true => match S.tree.get a with
    | some o => alive o
    | none => none
  | false => none
theorem peekT_ok (S : SharedT) {a : Nat} {o : Obj} (h : peekT S a = some o) : S.abs.heap.get? a = some o := by
  unfold peekT at h
  cases hb : Nat.blt a S.n with
  | false => rw [hb] at h; cases h
  | true =>
    rw [hb] at h
    dsimp only at h
    have hlt : a < S.n := Nat.le_of_ble_eq_true hb
    cases hg : S.tree.get a with
    | none => rw [hg] at h; cases h
    | some x =>
      rw [hg] at h
      have := abs_get (life := S.life) hlt hg
      exact this.trans h
end Mine
namespace Mine
noncomputable abbrev pw : Program := PySem.Challenge.pw_og0020_01
noncomputable abbrev so (x : String) : Str := Str.ofString x
noncomputable abbrev en (P : Params) (k : Str) (t : Tok) (v : Value) : DictEntry := ⟨PyData.keyHash P k, .str k t, v⟩
noncomputable def nth {α : Type} (d : α) : List α → Nat → α
  | [], _ => d
  | a :: _, 0 => a
  | _ :: r, n + 1 => nth d r n
noncomputable def noStmt : Stmt := .Pass ⟨0, 0, 0, 0⟩
noncomputable def stmtAt (i : Nat) : Stmt := nth noStmt pw.main.body i
noncomputable def methAt (i j : Nat) : Stmt := match stmtAt i with
  | .ClassDef _ _ _ b _ _ _ _ _ _ _ => nth noStmt b j
  | _ => noStmt
noncomputable def nameOf : Stmt → Str
  | .FunctionDef n _ _ _ _ _ _ _ _ _ => n
  | _ => Str.empty
noncomputable def paramsOf : Stmt → Arguments
  | .FunctionDef _ p _ _ _ _ _ _ _ _ => p
  | _ => { posonlyargs := [], args := [], vararg := none, kwonlyargs := [], kw_defaults := [], kwarg := none, defaults := [] }
noncomputable def bodyOf : Stmt → List Stmt
  | .FunctionDef _ _ b _ _ _ _ _ _ _ => b
  | _ => []
noncomputable def scopeOf : Stmt → Scope
  | .FunctionDef _ _ _ _ _ _ s _ _ _ => s
  | _ => pw.main.scope
noncomputable abbrev fnAt (s : Stmt) (qual : Str) (dV pm cdv : Value) : FuncData := fnOf (nameOf s) qual (paramsOf s) (bodyOf s) (scopeOf s) dV .none .none pm none cdv .none
noncomputable abbrev clAt (name : Str) (a ns : Addr) : ClassData := { name := name, bases := [.type "object"], mro := [.ref a, .type "object"], ns := ns, qualname := name }
noncomputable def O3 (P : Params) : Obj := ⟨.type "dict", none, .dict #[en P (so "__name__") 165 (.str (so "law_og0020_01") 1013), en P (so "__doc__") 166 (.none), en P (so "__package__") 167 (.none), en P (so "__loader__") 168 (.builtin "__main__.__loader__#opaque"), en P (so "__spec__") 169 (.none), en P (so "__annotations__") 170 (.ref 6), en P (so "__builtins__") 171 (.ref 4), en P (so "__file__") 173 (.str (so "/claim/cut.py") 172), en P (so "__cached__") 174 (.none), en P (so "_wall") 193 (.ref 21), en P (so "Var") 247 (.ref 59), en P (so "Lit") 301 (.ref 101), en P (so "App") 354 (.ref 141), en P (so "Lam") 408 (.ref 183), en P (so "Let") 462 (.ref 221), en P (so "Alt") 495 (.ref 242), en P (so "Case") 554 (.ref 282), en P (so "Con") 607 (.ref 322), en P (so "Prim") 660 (.ref 362), en P (so "Split") 695 (.ref 383), en P (so "is_alone") 702 (.ref 394), en P (so "scrutinised") 708 (.ref 399), en P (so "splits_of") 714 (.ref 404), en P (so "worker_of") 720 (.ref 409), en P (so "wrapper_of") 726 (.ref 414), en P (so "LazyError") 759 (.ref 432), en P (so "CoreError") 775 (.ref 445), en P (so "KEY_WORDS") 791 (.ref 448), en P (so "NEVER_BARE") 793 (.str (so "()| ") 792), en P (so "is_number") 799 (.ref 453), en P (so "is_bare") 805 (.ref 458), en P (so "name_text") 812 (.ref 465), en P (so "names_text") 818 (.ref 470), en P (so "literal_text") 826 (.ref 477), en P (so "key_text") 833 (.ref 484), en P (so "binds_text") 839 (.ref 489), en P (so "case_text") 845 (.ref 494), en P (so "row_text") 851 (.ref 499), en P (so "inner_text") 859 (.ref 506), en P (so "core_text") 866 (.ref 513), en P (so "ConInfo") 911 (.ref 530), en P (so "Signature") 953 (.ref 558), en P (so "base_of") 963 (.ref 569), en P (so "Fresh") 1012 (.ref 602), en P (so "_law_pool") 1025 (.ref 613), en P (so "_law_take") 1034 (.ref 620), en P (so "_law_one") 1042 (.ref 627), en P (so "_law_new") 1050 (.ref 634), en P (so "_law_cons") 1056 (.ref 639), en P (so "_law_body") 1062 (.ref 644), en P (so "_law_plain_worker") 1068 (.ref 649), en P (so "_law_wrapper_right") 1074 (.ref 654), en P (so "law") 1080 (.ref 659)] 53, #[]⟩
noncomputable def O34 (P : Params) : Obj := ⟨.type "code", none, .fields #[.str (so "__init__") 208, .str (so "Var.__init__") 209, .str (so "/claim/cut.py") 210, .int 7 0, .int 2 0, .int 0 0, .int 0 0, .int 3 0, .ref 29, .bool true, .int 181 0, .ref 30, .none, .ref 31, .ref 32, .ref 33, .int 213 0, .int 7 0, .str (so "/claim/cut.py") 214], #[]⟩
noncomputable def O35 (P : Params) : Obj := ⟨.type "function", none, .func (fnAt (methAt 2 0) (so "Var.__init__") (.none) (.str (so "lazycore.core") 194) (.ref 34)), #[]⟩
noncomputable def O48 (P : Params) : Obj := ⟨.type "code", none, .fields #[.str (so "parts") 223, .str (so "Var.parts") 224, .str (so "/claim/cut.py") 225, .int 13 0, .int 1 0, .int 0 0, .int 0 0, .int 3 0, .ref 43, .bool true, .int 181 0, .ref 44, .none, .ref 45, .ref 46, .ref 47, .int 227 0, .int 13 0, .str (so "/claim/cut.py") 228], #[]⟩
noncomputable def O49 (P : Params) : Obj := ⟨.type "function", none, .func (fnAt (methAt 2 2) (so "Var.parts") (.none) (.str (so "lazycore.core") 194) (.ref 48)), #[]⟩
noncomputable def O58 (P : Params) : Obj := ⟨.type "dict", none, .dict #[en P (so "__module__") 203 (.str (so "lazycore.core") 194), en P (so "__firstlineno__") 207 (.int 5 206), en P (so "__init__") 215 (.ref 35), en P (so "groups") 222 (.ref 42), en P (so "parts") 229 (.ref 49), en P (so "rebuilt") 238 (.ref 56), en P (so "__static_attributes__") 240 (.ref 57), en P (so "__dict__") 242 (.ref 60), en P (so "__weakref__") 244 (.ref 61), en P (so "__doc__") 245 (.none)] 4, #[]⟩
noncomputable def O59 (P : Params) : Obj := ⟨.type "type", none, .cls (clAt (so "Var") 59 58), #[none, none, some (.str (so "Var") 196), some (.str (so "Var") 204), some (.builtin "object.__new__"), some (.bool true)]⟩
noncomputable def O76 (P : Params) : Obj := ⟨.type "code", none, .fields #[.str (so "__init__") 260, .str (so "Lit.__init__") 261, .str (so "/claim/cut.py") 262, .int 20 0, .int 3 0, .int 0 0, .int 0 0, .int 3 0, .ref 71, .bool true, .int 181 0, .ref 72, .none, .ref 73, .ref 74, .ref 75, .int 266 0, .int 20 0, .str (so "/claim/cut.py") 267], #[]⟩
noncomputable def O77 (P : Params) : Obj := ⟨.type "function", none, .func (fnAt (methAt 3 0) (so "Lit.__init__") (.none) (.str (so "lazycore.core") 194) (.ref 76)), #[]⟩
noncomputable def O90 (P : Params) : Obj := ⟨.type "code", none, .fields #[.str (so "parts") 276, .str (so "Lit.parts") 277, .str (so "/claim/cut.py") 278, .int 27 0, .int 1 0, .int 0 0, .int 0 0, .int 3 0, .ref 85, .bool true, .int 181 0, .ref 86, .none, .ref 87, .ref 88, .ref 89, .int 280 0, .int 27 0, .str (so "/claim/cut.py") 281], #[]⟩
noncomputable def O91 (P : Params) : Obj := ⟨.type "function", none, .func (fnAt (methAt 3 2) (so "Lit.parts") (.none) (.str (so "lazycore.core") 194) (.ref 90)), #[]⟩
noncomputable def O100 (P : Params) : Obj := ⟨.type "dict", none, .dict #[en P (so "__module__") 255 (.str (so "lazycore.core") 194), en P (so "__firstlineno__") 259 (.int 18 258), en P (so "__init__") 268 (.ref 77), en P (so "groups") 275 (.ref 84), en P (so "parts") 282 (.ref 91), en P (so "rebuilt") 291 (.ref 98), en P (so "__static_attributes__") 294 (.ref 99), en P (so "__dict__") 296 (.ref 102), en P (so "__weakref__") 298 (.ref 103), en P (so "__doc__") 299 (.none)] 4, #[]⟩
noncomputable def O101 (P : Params) : Obj := ⟨.type "type", none, .cls (clAt (so "Lit") 101 100), #[none, none, some (.str (so "Lit") 248), some (.str (so "Lit") 256), some (.builtin "object.__new__"), some (.bool true)]⟩
noncomputable def O118 (P : Params) : Obj := ⟨.type "code", none, .fields #[.str (so "__init__") 314, .str (so "App.__init__") 315, .str (so "/claim/cut.py") 316, .int 34 0, .int 3 0, .int 0 0, .int 0 0, .int 3 0, .ref 113, .bool true, .int 181 0, .ref 114, .none, .ref 115, .ref 116, .ref 117, .int 320 0, .int 34 0, .str (so "/claim/cut.py") 321], #[]⟩
noncomputable def O119 (P : Params) : Obj := ⟨.type "function", none, .func (fnAt (methAt 4 0) (so "App.__init__") (.none) (.str (so "lazycore.core") 194) (.ref 118)), #[]⟩
noncomputable def O130 (P : Params) : Obj := ⟨.type "code", none, .fields #[.str (so "parts") 330, .str (so "App.parts") 331, .str (so "/claim/cut.py") 332, .int 41 0, .int 1 0, .int 0 0, .int 0 0, .int 3 0, .ref 127, .bool true, .int 181 0, .ref 128, .none, .none, .none, .ref 129, .int 333 0, .int 41 0, .str (so "/claim/cut.py") 334], #[]⟩
noncomputable def O131 (P : Params) : Obj := ⟨.type "function", none, .func (fnAt (methAt 4 2) (so "App.parts") (.none) (.str (so "lazycore.core") 194) (.ref 130)), #[]⟩
noncomputable def O140 (P : Params) : Obj := ⟨.type "dict", none, .dict #[en P (so "__module__") 309 (.str (so "lazycore.core") 194), en P (so "__firstlineno__") 313 (.int 32 312), en P (so "__init__") 322 (.ref 119), en P (so "groups") 329 (.ref 126), en P (so "parts") 335 (.ref 131), en P (so "rebuilt") 344 (.ref 138), en P (so "__static_attributes__") 347 (.ref 139), en P (so "__dict__") 349 (.ref 142), en P (so "__weakref__") 351 (.ref 143), en P (so "__doc__") 352 (.none)] 4, #[]⟩
noncomputable def O141 (P : Params) : Obj := ⟨.type "type", none, .cls (clAt (so "App") 141 140), #[none, none, some (.str (so "App") 302), some (.str (so "App") 310), some (.builtin "object.__new__"), some (.bool true)]⟩
noncomputable def O158 (P : Params) : Obj := ⟨.type "code", none, .fields #[.str (so "__init__") 367, .str (so "Lam.__init__") 368, .str (so "/claim/cut.py") 369, .int 48 0, .int 3 0, .int 0 0, .int 0 0, .int 3 0, .ref 153, .bool true, .int 181 0, .ref 154, .none, .ref 155, .ref 156, .ref 157, .int 373 0, .int 48 0, .str (so "/claim/cut.py") 374], #[]⟩
noncomputable def O159 (P : Params) : Obj := ⟨.type "function", none, .func (fnAt (methAt 5 0) (so "Lam.__init__") (.none) (.str (so "lazycore.core") 194) (.ref 158)), #[]⟩
noncomputable def O172 (P : Params) : Obj := ⟨.type "code", none, .fields #[.str (so "parts") 383, .str (so "Lam.parts") 384, .str (so "/claim/cut.py") 385, .int 55 0, .int 1 0, .int 0 0, .int 0 0, .int 3 0, .ref 167, .bool true, .int 181 0, .ref 168, .none, .ref 169, .ref 170, .ref 171, .int 387 0, .int 55 0, .str (so "/claim/cut.py") 388], #[]⟩
noncomputable def O173 (P : Params) : Obj := ⟨.type "function", none, .func (fnAt (methAt 5 2) (so "Lam.parts") (.none) (.str (so "lazycore.core") 194) (.ref 172)), #[]⟩
noncomputable def O182 (P : Params) : Obj := ⟨.type "dict", none, .dict #[en P (so "__module__") 362 (.str (so "lazycore.core") 194), en P (so "__firstlineno__") 366 (.int 46 365), en P (so "__init__") 375 (.ref 159), en P (so "groups") 382 (.ref 166), en P (so "parts") 389 (.ref 173), en P (so "rebuilt") 398 (.ref 180), en P (so "__static_attributes__") 401 (.ref 181), en P (so "__dict__") 403 (.ref 184), en P (so "__weakref__") 405 (.ref 185), en P (so "__doc__") 406 (.none)] 4, #[]⟩
noncomputable def O183 (P : Params) : Obj := ⟨.type "type", none, .cls (clAt (so "Lam") 183 182), #[none, none, some (.str (so "Lam") 355), some (.str (so "Lam") 363), some (.builtin "object.__new__"), some (.bool true)]⟩
noncomputable def O200 (P : Params) : Obj := ⟨.type "code", none, .fields #[.str (so "__init__") 421, .str (so "Let.__init__") 422, .str (so "/claim/cut.py") 423, .int 62 0, .int 4 0, .int 0 0, .int 0 0, .int 3 0, .ref 195, .bool true, .int 181 0, .ref 196, .none, .ref 197, .ref 198, .ref 199, .int 428 0, .int 62 0, .str (so "/claim/cut.py") 429], #[]⟩
noncomputable def O201 (P : Params) : Obj := ⟨.type "function", none, .func (fnAt (methAt 6 0) (so "Let.__init__") (.none) (.str (so "lazycore.core") 194) (.ref 200)), #[]⟩
noncomputable def O210 (P : Params) : Obj := ⟨.type "code", none, .fields #[.str (so "parts") 437, .str (so "Let.parts") 438, .str (so "/claim/cut.py") 439, .int 70 0, .int 1 0, .int 0 0, .int 0 0, .int 3 0, .ref 207, .bool true, .int 181 0, .ref 208, .none, .none, .none, .ref 209, .int 440 0, .int 70 0, .str (so "/claim/cut.py") 441], #[]⟩
noncomputable def O211 (P : Params) : Obj := ⟨.type "function", none, .func (fnAt (methAt 6 2) (so "Let.parts") (.none) (.str (so "lazycore.core") 194) (.ref 210)), #[]⟩
noncomputable def O220 (P : Params) : Obj := ⟨.type "dict", none, .dict #[en P (so "__module__") 416 (.str (so "lazycore.core") 194), en P (so "__firstlineno__") 420 (.int 60 419), en P (so "__init__") 430 (.ref 201), en P (so "groups") 436 (.ref 206), en P (so "parts") 442 (.ref 211), en P (so "rebuilt") 451 (.ref 218), en P (so "__static_attributes__") 455 (.ref 219), en P (so "__dict__") 457 (.ref 222), en P (so "__weakref__") 459 (.ref 223), en P (so "__doc__") 460 (.none)] 4, #[]⟩
noncomputable def O221 (P : Params) : Obj := ⟨.type "type", none, .cls (clAt (so "Let") 221 220), #[none, none, some (.str (so "Let") 409), some (.str (so "Let") 417), some (.builtin "object.__new__"), some (.bool true)]⟩
noncomputable def O238 (P : Params) : Obj := ⟨.type "code", none, .fields #[.str (so "__init__") 475, .str (so "Alt.__init__") 476, .str (so "/claim/cut.py") 477, .int 78 0, .int 4 0, .int 0 0, .int 0 0, .int 3 0, .ref 233, .bool true, .int 181 0, .ref 234, .none, .ref 235, .ref 236, .ref 237, .int 482 0, .int 78 0, .str (so "/claim/cut.py") 483], #[]⟩
noncomputable def O239 (P : Params) : Obj := ⟨.type "function", none, .func (fnAt (methAt 7 0) (so "Alt.__init__") (.none) (.str (so "lazycore.core") 194) (.ref 238)), #[]⟩
noncomputable def O241 (P : Params) : Obj := ⟨.type "dict", none, .dict #[en P (so "__module__") 470 (.str (so "lazycore.core") 194), en P (so "__firstlineno__") 474 (.int 76 473), en P (so "__init__") 484 (.ref 239), en P (so "__static_attributes__") 488 (.ref 240), en P (so "__dict__") 490 (.ref 243), en P (so "__weakref__") 492 (.ref 244), en P (so "__doc__") 493 (.none)] 4, #[]⟩
noncomputable def O242 (P : Params) : Obj := ⟨.type "type", none, .cls (clAt (so "Alt") 242 241), #[none, none, some (.str (so "Alt") 463), some (.str (so "Alt") 471), some (.builtin "object.__new__"), some (.bool true)]⟩
noncomputable def O259 (P : Params) : Obj := ⟨.type "code", none, .fields #[.str (so "__init__") 508, .str (so "Case.__init__") 509, .str (so "/claim/cut.py") 510, .int 84 0, .int 5 0, .int 0 0, .int 0 0, .int 3 0, .ref 254, .bool true, .int 181 0, .ref 255, .none, .ref 256, .ref 257, .ref 258, .int 516 0, .int 84 0, .str (so "/claim/cut.py") 517], #[]⟩
noncomputable def O260 (P : Params) : Obj := ⟨.type "function", none, .func (fnAt (methAt 8 0) (so "Case.__init__") (.none) (.str (so "lazycore.core") 194) (.ref 259)), #[]⟩
noncomputable def O271 (P : Params) : Obj := ⟨.type "code", none, .fields #[.str (so "parts") 525, .str (so "Case.parts") 526, .str (so "/claim/cut.py") 527, .int 93 0, .int 1 0, .int 0 0, .int 0 0, .int 3 0, .ref 266, .bool true, .int 181 0, .ref 267, .none, .ref 268, .ref 269, .ref 270, .int 531 0, .int 93 0, .str (so "/claim/cut.py") 532], #[]⟩
noncomputable def O272 (P : Params) : Obj := ⟨.type "function", none, .func (fnAt (methAt 8 2) (so "Case.parts") (.none) (.str (so "lazycore.core") 194) (.ref 271)), #[]⟩
noncomputable def O281 (P : Params) : Obj := ⟨.type "dict", none, .dict #[en P (so "__module__") 503 (.str (so "lazycore.core") 194), en P (so "__firstlineno__") 507 (.int 82 506), en P (so "__init__") 518 (.ref 260), en P (so "groups") 524 (.ref 265), en P (so "parts") 533 (.ref 272), en P (so "rebuilt") 542 (.ref 279), en P (so "__static_attributes__") 547 (.ref 280), en P (so "__dict__") 549 (.ref 283), en P (so "__weakref__") 551 (.ref 284), en P (so "__doc__") 552 (.none)] 4, #[]⟩
noncomputable def O282 (P : Params) : Obj := ⟨.type "type", none, .cls (clAt (so "Case") 282 281), #[none, none, some (.str (so "Case") 496), some (.str (so "Case") 504), some (.builtin "object.__new__"), some (.bool true)]⟩
noncomputable def O299 (P : Params) : Obj := ⟨.type "code", none, .fields #[.str (so "__init__") 567, .str (so "Con.__init__") 568, .str (so "/claim/cut.py") 569, .int 103 0, .int 3 0, .int 0 0, .int 0 0, .int 3 0, .ref 294, .bool true, .int 181 0, .ref 295, .none, .ref 296, .ref 297, .ref 298, .int 573 0, .int 103 0, .str (so "/claim/cut.py") 574], #[]⟩
noncomputable def O300 (P : Params) : Obj := ⟨.type "function", none, .func (fnAt (methAt 9 0) (so "Con.__init__") (.none) (.str (so "lazycore.core") 194) (.ref 299)), #[]⟩
noncomputable def O321 (P : Params) : Obj := ⟨.type "dict", none, .dict #[en P (so "__module__") 562 (.str (so "lazycore.core") 194), en P (so "__firstlineno__") 566 (.int 101 565), en P (so "__init__") 575 (.ref 300), en P (so "groups") 582 (.ref 307), en P (so "parts") 588 (.ref 312), en P (so "rebuilt") 597 (.ref 319), en P (so "__static_attributes__") 600 (.ref 320), en P (so "__dict__") 602 (.ref 323), en P (so "__weakref__") 604 (.ref 324), en P (so "__doc__") 605 (.none)] 4, #[]⟩
noncomputable def O322 (P : Params) : Obj := ⟨.type "type", none, .cls (clAt (so "Con") 322 321), #[none, none, some (.str (so "Con") 555), some (.str (so "Con") 563), some (.builtin "object.__new__"), some (.bool true)]⟩
noncomputable def O379 (P : Params) : Obj := ⟨.type "code", none, .fields #[.str (so "__init__") 675, .str (so "Split.__init__") 676, .str (so "/claim/cut.py") 677, .int 132 0, .int 4 0, .int 0 0, .int 0 0, .int 3 0, .ref 374, .bool true, .int 181 0, .ref 375, .none, .ref 376, .ref 377, .ref 378, .int 682 0, .int 132 0, .str (so "/claim/cut.py") 683], #[]⟩
noncomputable def O380 (P : Params) : Obj := ⟨.type "function", none, .func (fnAt (methAt 12 0) (so "Split.__init__") (.none) (.str (so "lazycore.worker_wrapper") 661) (.ref 379)), #[]⟩
noncomputable def O382 (P : Params) : Obj := ⟨.type "dict", none, .dict #[en P (so "__module__") 670 (.str (so "lazycore.worker_wrapper") 661), en P (so "__firstlineno__") 674 (.int 130 673), en P (so "__init__") 684 (.ref 380), en P (so "__static_attributes__") 688 (.ref 381), en P (so "__dict__") 690 (.ref 384), en P (so "__weakref__") 692 (.ref 385), en P (so "__doc__") 693 (.none)] 4, #[]⟩
noncomputable def O383 (P : Params) : Obj := ⟨.type "type", none, .cls (clAt (so "Split") 383 382), #[none, none, some (.str (so "Split") 663), some (.str (so "Split") 671), some (.builtin "object.__new__"), some (.bool true)]⟩
noncomputable def O393 (P : Params) : Obj := ⟨.type "code", none, .fields #[.str (so "is_alone") 696, .str (so "is_alone") 697, .str (so "/claim/cut.py") 698, .int 136 0, .int 1 0, .int 0 0, .int 0 0, .int 3 0, .ref 388, .bool true, .int 181 0, .ref 389, .none, .ref 390, .ref 391, .ref 392, .int 700 0, .int 136 0, .str (so "/claim/cut.py") 701], #[]⟩
noncomputable def O394 (P : Params) : Obj := ⟨.type "function", none, .func (fnAt (stmtAt 13) (so "is_alone") (.none) (.str (so "lazycore.worker_wrapper") 661) (.ref 393)), #[]⟩
noncomputable def O398 (P : Params) : Obj := ⟨.type "code", none, .fields #[.str (so "scrutinised") 703, .str (so "scrutinised") 704, .str (so "/claim/cut.py") 705, .int 138 0, .int 2 0, .int 0 0, .int 0 0, .int 3 0, .ref 395, .bool true, .int 181 0, .ref 396, .none, .none, .none, .ref 397, .int 706 0, .int 138 0, .str (so "/claim/cut.py") 707], #[]⟩
noncomputable def O399 (P : Params) : Obj := ⟨.type "function", none, .func (fnAt (stmtAt 14) (so "scrutinised") (.none) (.str (so "lazycore.worker_wrapper") 661) (.ref 398)), #[]⟩
noncomputable def O403 (P : Params) : Obj := ⟨.type "code", none, .fields #[.str (so "splits_of") 709, .str (so "splits_of") 710, .str (so "/claim/cut.py") 711, .int 148 0, .int 4 0, .int 0 0, .int 0 0, .int 3 0, .ref 400, .bool true, .int 181 0, .ref 401, .none, .none, .none, .ref 402, .int 712 0, .int 148 0, .str (so "/claim/cut.py") 713], #[]⟩
noncomputable def O404 (P : Params) : Obj := ⟨.type "function", none, .func (fnAt (stmtAt 15) (so "splits_of") (.none) (.str (so "lazycore.worker_wrapper") 661) (.ref 403)), #[]⟩
noncomputable def O408 (P : Params) : Obj := ⟨.type "code", none, .fields #[.str (so "worker_of") 715, .str (so "worker_of") 716, .str (so "/claim/cut.py") 717, .int 156 0, .int 2 0, .int 0 0, .int 0 0, .int 3 0, .ref 405, .bool true, .int 181 0, .ref 406, .none, .none, .none, .ref 407, .int 718 0, .int 156 0, .str (so "/claim/cut.py") 719], #[]⟩
noncomputable def O409 (P : Params) : Obj := ⟨.type "function", none, .func (fnAt (stmtAt 16) (so "worker_of") (.none) (.str (so "lazycore.worker_wrapper") 661) (.ref 408)), #[]⟩
noncomputable def O413 (P : Params) : Obj := ⟨.type "code", none, .fields #[.str (so "wrapper_of") 721, .str (so "wrapper_of") 722, .str (so "/claim/cut.py") 723, .int 168 0, .int 4 0, .int 0 0, .int 0 0, .int 3 0, .ref 410, .bool true, .int 181 0, .ref 411, .none, .none, .none, .ref 412, .int 724 0, .int 168 0, .str (so "/claim/cut.py") 725], #[]⟩
noncomputable def O414 (P : Params) : Obj := ⟨.type "function", none, .func (fnAt (stmtAt 17) (so "wrapper_of") (.none) (.str (so "lazycore.worker_wrapper") 661) (.ref 413)), #[]⟩
noncomputable def O448 (P : Params) : Obj := ⟨.type "tuple", none, .seq #[.str (so "int") 778, .str (so "char") 779, .str (so "app") 780, .str (so "lam") 781, .str (so "let") 782, .str (so "letrec") 783, .str (so "case") 784, .str (so "of") 785, .str (so "is") 786, .str (so "else") 787, .str (so "con") 788, .str (so "prim") 789, .str (so "program") 790] 0, #[]⟩
noncomputable def O452 (P : Params) : Obj := ⟨.type "code", none, .fields #[.str (so "is_number") 794, .str (so "is_number") 795, .str (so "/claim/cut.py") 796, .int 195 0, .int 1 0, .int 0 0, .int 0 0, .int 3 0, .ref 449, .bool true, .int 181 0, .ref 450, .none, .none, .none, .ref 451, .int 797 0, .int 195 0, .str (so "/claim/cut.py") 798], #[]⟩
noncomputable def O453 (P : Params) : Obj := ⟨.type "function", none, .func (fnAt (stmtAt 24) (so "is_number") (.none) (.str (so "lazycore.core_text") 776) (.ref 452)), #[]⟩
noncomputable def O457 (P : Params) : Obj := ⟨.type "code", none, .fields #[.str (so "is_bare") 800, .str (so "is_bare") 801, .str (so "/claim/cut.py") 802, .int 198 0, .int 1 0, .int 0 0, .int 0 0, .int 3 0, .ref 454, .bool true, .int 181 0, .ref 455, .none, .none, .none, .ref 456, .int 803 0, .int 198 0, .str (so "/claim/cut.py") 804], #[]⟩
noncomputable def O458 (P : Params) : Obj := ⟨.type "function", none, .func (fnAt (stmtAt 25) (so "is_bare") (.none) (.str (so "lazycore.core_text") 776) (.ref 457)), #[]⟩
noncomputable def O464 (P : Params) : Obj := ⟨.type "code", none, .fields #[.str (so "name_text") 806, .str (so "name_text") 807, .str (so "/claim/cut.py") 808, .int 202 0, .int 1 0, .int 0 0, .int 0 0, .int 3 0, .ref 459, .bool true, .int 181 0, .ref 460, .none, .ref 461, .ref 462, .ref 463, .int 810 0, .int 202 0, .str (so "/claim/cut.py") 811], #[]⟩
noncomputable def O465 (P : Params) : Obj := ⟨.type "function", none, .func (fnAt (stmtAt 26) (so "name_text") (.none) (.str (so "lazycore.core_text") 776) (.ref 464)), #[]⟩
noncomputable def O469 (P : Params) : Obj := ⟨.type "code", none, .fields #[.str (so "names_text") 813, .str (so "names_text") 814, .str (so "/claim/cut.py") 815, .int 206 0, .int 1 0, .int 0 0, .int 0 0, .int 3 0, .ref 466, .bool true, .int 181 0, .ref 467, .none, .none, .none, .ref 468, .int 816 0, .int 206 0, .str (so "/claim/cut.py") 817], #[]⟩
noncomputable def O470 (P : Params) : Obj := ⟨.type "function", none, .func (fnAt (stmtAt 27) (so "names_text") (.none) (.str (so "lazycore.core_text") 776) (.ref 469)), #[]⟩
noncomputable def O476 (P : Params) : Obj := ⟨.type "code", none, .fields #[.str (so "literal_text") 819, .str (so "literal_text") 820, .str (so "/claim/cut.py") 821, .int 208 0, .int 2 0, .int 0 0, .int 0 0, .int 3 0, .ref 471, .bool true, .int 181 0, .ref 472, .none, .ref 473, .ref 474, .ref 475, .int 824 0, .int 208 0, .str (so "/claim/cut.py") 825], #[]⟩
noncomputable def O477 (P : Params) : Obj := ⟨.type "function", none, .func (fnAt (stmtAt 28) (so "literal_text") (.none) (.str (so "lazycore.core_text") 776) (.ref 476)), #[]⟩
noncomputable def O483 (P : Params) : Obj := ⟨.type "code", none, .fields #[.str (so "key_text") 827, .str (so "key_text") 828, .str (so "/claim/cut.py") 829, .int 210 0, .int 1 0, .int 0 0, .int 0 0, .int 3 0, .ref 478, .bool true, .int 181 0, .ref 479, .none, .ref 480, .ref 481, .ref 482, .int 831 0, .int 210 0, .str (so "/claim/cut.py") 832], #[]⟩
noncomputable def O484 (P : Params) : Obj := ⟨.type "function", none, .func (fnAt (stmtAt 29) (so "key_text") (.none) (.str (so "lazycore.core_text") 776) (.ref 483)), #[]⟩
noncomputable def O488 (P : Params) : Obj := ⟨.type "code", none, .fields #[.str (so "binds_text") 834, .str (so "binds_text") 835, .str (so "/claim/cut.py") 836, .int 214 0, .int 1 0, .int 0 0, .int 0 0, .int 3 0, .ref 485, .bool true, .int 181 0, .ref 486, .none, .none, .none, .ref 487, .int 837 0, .int 214 0, .str (so "/claim/cut.py") 838], #[]⟩
noncomputable def O489 (P : Params) : Obj := ⟨.type "function", none, .func (fnAt (stmtAt 30) (so "binds_text") (.none) (.str (so "lazycore.core_text") 776) (.ref 488)), #[]⟩
noncomputable def O493 (P : Params) : Obj := ⟨.type "code", none, .fields #[.str (so "case_text") 840, .str (so "case_text") 841, .str (so "/claim/cut.py") 842, .int 216 0, .int 1 0, .int 0 0, .int 0 0, .int 3 0, .ref 490, .bool true, .int 181 0, .ref 491, .none, .none, .none, .ref 492, .int 843 0, .int 216 0, .str (so "/claim/cut.py") 844], #[]⟩
noncomputable def O494 (P : Params) : Obj := ⟨.type "function", none, .func (fnAt (stmtAt 31) (so "case_text") (.none) (.str (so "lazycore.core_text") 776) (.ref 493)), #[]⟩
noncomputable def O498 (P : Params) : Obj := ⟨.type "code", none, .fields #[.str (so "row_text") 846, .str (so "row_text") 847, .str (so "/claim/cut.py") 848, .int 220 0, .int 2 0, .int 0 0, .int 0 0, .int 3 0, .ref 495, .bool true, .int 181 0, .ref 496, .none, .none, .none, .ref 497, .int 849 0, .int 220 0, .str (so "/claim/cut.py") 850], #[]⟩
noncomputable def O499 (P : Params) : Obj := ⟨.type "function", none, .func (fnAt (stmtAt 32) (so "row_text") (.none) (.str (so "lazycore.core_text") 776) (.ref 498)), #[]⟩
noncomputable def O505 (P : Params) : Obj := ⟨.type "code", none, .fields #[.str (so "inner_text") 852, .str (so "inner_text") 853, .str (so "/claim/cut.py") 854, .int 222 0, .int 1 0, .int 0 0, .int 0 0, .int 3 0, .ref 500, .bool true, .int 181 0, .ref 501, .none, .ref 502, .ref 503, .ref 504, .int 857 0, .int 222 0, .str (so "/claim/cut.py") 858], #[]⟩
noncomputable def O506 (P : Params) : Obj := ⟨.type "function", none, .func (fnAt (stmtAt 33) (so "inner_text") (.none) (.str (so "lazycore.core_text") 776) (.ref 505)), #[]⟩
noncomputable def O512 (P : Params) : Obj := ⟨.type "code", none, .fields #[.str (so "core_text") 860, .str (so "core_text") 861, .str (so "/claim/cut.py") 862, .int 239 0, .int 1 0, .int 0 0, .int 0 0, .int 3 0, .ref 507, .bool true, .int 181 0, .ref 508, .none, .ref 509, .ref 510, .ref 511, .int 864 0, .int 239 0, .str (so "/claim/cut.py") 865], #[]⟩
noncomputable def O513 (P : Params) : Obj := ⟨.type "function", none, .func (fnAt (stmtAt 34) (so "core_text") (.none) (.str (so "lazycore.core_text") 776) (.ref 512)), #[]⟩
noncomputable def O526 (P : Params) : Obj := ⟨.type "code", none, .fields #[.str (so "__init__") 881, .str (so "ConInfo.__init__") 882, .str (so "/claim/cut.py") 883, .int 244 0, .int 9 0, .int 0 0, .int 0 0, .int 3 0, .ref 521, .bool true, .int 181 0, .ref 522, .none, .ref 523, .ref 524, .ref 525, .int 893 0, .int 244 0, .str (so "/claim/cut.py") 894], #[]⟩
noncomputable def O527 (P : Params) : Obj := ⟨.type "function", none, .func (fnAt (methAt 36 0) (so "ConInfo.__init__") (.none) (.str (so "lazycore.datatypes") 867) (.ref 526)), #[]⟩
noncomputable def O529 (P : Params) : Obj := ⟨.type "dict", none, .dict #[en P (so "__module__") 876 (.str (so "lazycore.datatypes") 867), en P (so "__firstlineno__") 880 (.int 242 879), en P (so "__init__") 895 (.ref 527), en P (so "__static_attributes__") 904 (.ref 528), en P (so "__dict__") 906 (.ref 531), en P (so "__weakref__") 908 (.ref 532), en P (so "__doc__") 909 (.none)] 4, #[]⟩
noncomputable def O530 (P : Params) : Obj := ⟨.type "type", none, .cls (clAt (so "ConInfo") 530 529), #[none, none, some (.str (so "ConInfo") 869), some (.str (so "ConInfo") 877), some (.builtin "object.__new__"), some (.bool true)]⟩
noncomputable def O547 (P : Params) : Obj := ⟨.type "code", none, .fields #[.str (so "__init__") 926, .str (so "Signature.__init__") 927, .str (so "/claim/cut.py") 928, .int 256 0, .int 4 0, .int 0 0, .int 0 0, .int 3 0, .ref 542, .bool true, .int 181 0, .ref 543, .none, .ref 544, .ref 545, .ref 546, .int 933 0, .int 256 0, .str (so "/claim/cut.py") 934], #[]⟩
noncomputable def O548 (P : Params) : Obj := ⟨.type "function", none, .func (fnAt (methAt 38 0) (so "Signature.__init__") (.none) (.str (so "lazycore.demand") 912) (.ref 547)), #[]⟩
noncomputable def O557 (P : Params) : Obj := ⟨.type "dict", none, .dict #[en P (so "__module__") 921 (.str (so "lazycore.demand") 912), en P (so "__firstlineno__") 925 (.int 254 924), en P (so "__init__") 935 (.ref 548), en P (so "row") 942 (.ref 555), en P (so "__static_attributes__") 946 (.ref 556), en P (so "__dict__") 948 (.ref 559), en P (so "__weakref__") 950 (.ref 560), en P (so "__doc__") 951 (.none)] 4, #[]⟩
noncomputable def O558 (P : Params) : Obj := ⟨.type "type", none, .cls (clAt (so "Signature") 558 557), #[none, none, some (.str (so "Signature") 914), some (.str (so "Signature") 922), some (.builtin "object.__new__"), some (.bool true)]⟩
noncomputable def O568 (P : Params) : Obj := ⟨.type "code", none, .fields #[.str (so "base_of") 956, .str (so "base_of") 957, .str (so "/claim/cut.py") 958, .int 264 0, .int 1 0, .int 0 0, .int 0 0, .int 3 0, .ref 563, .bool true, .int 181 0, .ref 564, .none, .ref 565, .ref 566, .ref 567, .int 961 0, .int 264 0, .str (so "/claim/cut.py") 962], #[]⟩
noncomputable def O569 (P : Params) : Obj := ⟨.type "function", none, .func (fnAt (stmtAt 40) (so "base_of") (.none) (.str (so "lazycore.fresh") 954) (.ref 568)), #[]⟩
noncomputable def O577 (P : Params) : Obj := ⟨.type "tuple", none, .seq #[] 0, #[]⟩
noncomputable def O578 (P : Params) : Obj := ⟨.type "tuple", none, .seq #[.ref 577] 0, #[]⟩
noncomputable def O584 (P : Params) : Obj := ⟨.type "code", none, .fields #[.str (so "__init__") 976, .str (so "Fresh.__init__") 977, .str (so "/claim/cut.py") 978, .int 269 0, .int 2 0, .int 0 0, .int 0 0, .int 3 0, .ref 579, .bool true, .int 181 0, .ref 580, .none, .ref 581, .ref 582, .ref 583, .int 981 0, .int 269 0, .str (so "/claim/cut.py") 982], #[]⟩
noncomputable def O585 (P : Params) : Obj := ⟨.type "function", none, .func (fnAt (methAt 41 0) (so "Fresh.__init__") (.ref 578) (.str (so "lazycore.fresh") 954) (.ref 584)), #[]⟩
noncomputable def O591 (P : Params) : Obj := ⟨.type "code", none, .fields #[.str (so "avoid") 984, .str (so "Fresh.avoid") 985, .str (so "/claim/cut.py") 986, .int 274 0, .int 2 0, .int 0 0, .int 0 0, .int 3 0, .ref 586, .bool true, .int 181 0, .ref 587, .none, .ref 588, .ref 589, .ref 590, .int 990 0, .int 274 0, .str (so "/claim/cut.py") 991], #[]⟩
noncomputable def O592 (P : Params) : Obj := ⟨.type "function", none, .func (fnAt (methAt 41 1) (so "Fresh.avoid") (.none) (.str (so "lazycore.fresh") 954) (.ref 591)), #[]⟩
noncomputable def O598 (P : Params) : Obj := ⟨.type "code", none, .fields #[.str (so "next") 993, .str (so "Fresh.next") 994, .str (so "/claim/cut.py") 995, .int 278 0, .int 2 0, .int 0 0, .int 0 0, .int 3 0, .ref 593, .bool true, .int 181 0, .ref 594, .none, .ref 595, .ref 596, .ref 597, .int 1000 0, .int 278 0, .str (so "/claim/cut.py") 1001], #[]⟩
noncomputable def O599 (P : Params) : Obj := ⟨.type "function", none, .func (fnAt (methAt 41 2) (so "Fresh.next") (.none) (.str (so "lazycore.fresh") 954) (.ref 598)), #[]⟩
noncomputable def O601 (P : Params) : Obj := ⟨.type "dict", none, .dict #[en P (so "__module__") 971 (.str (so "lazycore.fresh") 954), en P (so "__firstlineno__") 975 (.int 267 974), en P (so "__init__") 983 (.ref 585), en P (so "avoid") 992 (.ref 592), en P (so "next") 1002 (.ref 599), en P (so "__static_attributes__") 1005 (.ref 600), en P (so "__dict__") 1007 (.ref 603), en P (so "__weakref__") 1009 (.ref 604), en P (so "__doc__") 1010 (.none)] 4, #[]⟩
noncomputable def O602 (P : Params) : Obj := ⟨.type "type", none, .cls (clAt (so "Fresh") 602 601), #[none, none, some (.str (so "Fresh") 964), some (.str (so "Fresh") 972), some (.builtin "object.__new__"), some (.bool true)]⟩
noncomputable def O612 (P : Params) : Obj := ⟨.type "code", none, .fields #[.str (so "_law_pool") 1015, .str (so "_law_pool") 1016, .str (so "/claim/cut.py") 1017, .int 286 0, .int 2 0, .int 0 0, .int 0 0, .int 3 0, .ref 607, .bool true, .int 181 0, .ref 608, .none, .ref 609, .ref 610, .ref 611, .int 1023 0, .int 286 0, .str (so "/claim/cut.py") 1024], #[]⟩
noncomputable def O613 (P : Params) : Obj := ⟨.type "function", none, .func (fnAt (stmtAt 43) (so "_law_pool") (.none) (.str (so "law_og0020_01") 1013) (.ref 612)), #[]⟩
noncomputable def O619 (P : Params) : Obj := ⟨.type "code", none, .fields #[.str (so "_law_take") 1026, .str (so "_law_take") 1027, .str (so "/claim/cut.py") 1028, .int 293 0, .int 2 0, .int 0 0, .int 0 0, .int 3 0, .ref 614, .bool true, .int 181 0, .ref 615, .none, .ref 616, .ref 617, .ref 618, .int 1032 0, .int 293 0, .str (so "/claim/cut.py") 1033], #[]⟩
noncomputable def O620 (P : Params) : Obj := ⟨.type "function", none, .func (fnAt (stmtAt 44) (so "_law_take") (.none) (.str (so "law_og0020_01") 1013) (.ref 619)), #[]⟩
noncomputable def O626 (P : Params) : Obj := ⟨.type "code", none, .fields #[.str (so "_law_one") 1035, .str (so "_law_one") 1036, .str (so "/claim/cut.py") 1037, .int 300 0, .int 2 0, .int 0 0, .int 0 0, .int 3 0, .ref 621, .bool true, .int 181 0, .ref 622, .none, .ref 623, .ref 624, .ref 625, .int 1040 0, .int 300 0, .str (so "/claim/cut.py") 1041], #[]⟩
noncomputable def O627 (P : Params) : Obj := ⟨.type "function", none, .func (fnAt (stmtAt 45) (so "_law_one") (.none) (.str (so "law_og0020_01") 1013) (.ref 626)), #[]⟩
noncomputable def O633 (P : Params) : Obj := ⟨.type "code", none, .fields #[.str (so "_law_new") 1043, .str (so "_law_new") 1044, .str (so "/claim/cut.py") 1045, .int 302 0, .int 2 0, .int 0 0, .int 0 0, .int 3 0, .ref 628, .bool true, .int 181 0, .ref 629, .none, .ref 630, .ref 631, .ref 632, .int 1048 0, .int 302 0, .str (so "/claim/cut.py") 1049], #[]⟩
noncomputable def O634 (P : Params) : Obj := ⟨.type "function", none, .func (fnAt (stmtAt 46) (so "_law_new") (.none) (.str (so "law_og0020_01") 1013) (.ref 633)), #[]⟩
noncomputable def O638 (P : Params) : Obj := ⟨.type "code", none, .fields #[.str (so "_law_cons") 1051, .str (so "_law_cons") 1052, .str (so "/claim/cut.py") 1053, .int 305 0, .int 0 0, .int 0 0, .int 0 0, .int 3 0, .ref 635, .bool true, .int 181 0, .ref 636, .none, .none, .none, .ref 637, .int 1054 0, .int 305 0, .str (so "/claim/cut.py") 1055], #[]⟩
noncomputable def O639 (P : Params) : Obj := ⟨.type "function", none, .func (fnAt (stmtAt 47) (so "_law_cons") (.none) (.str (so "law_og0020_01") 1013) (.ref 638)), #[]⟩
noncomputable def O643 (P : Params) : Obj := ⟨.type "code", none, .fields #[.str (so "_law_body") 1057, .str (so "_law_body") 1058, .str (so "/claim/cut.py") 1059, .int 308 0, .int 5 0, .int 0 0, .int 0 0, .int 3 0, .ref 640, .bool true, .int 181 0, .ref 641, .none, .none, .none, .ref 642, .int 1060 0, .int 308 0, .str (so "/claim/cut.py") 1061], #[]⟩
noncomputable def O644 (P : Params) : Obj := ⟨.type "function", none, .func (fnAt (stmtAt 48) (so "_law_body") (.none) (.str (so "law_og0020_01") 1013) (.ref 643)), #[]⟩
noncomputable def O648 (P : Params) : Obj := ⟨.type "code", none, .fields #[.str (so "_law_plain_worker") 1063, .str (so "_law_plain_worker") 1064, .str (so "/claim/cut.py") 1065, .int 334 0, .int 2 0, .int 0 0, .int 0 0, .int 3 0, .ref 645, .bool true, .int 181 0, .ref 646, .none, .none, .none, .ref 647, .int 1066 0, .int 334 0, .str (so "/claim/cut.py") 1067], #[]⟩
noncomputable def O649 (P : Params) : Obj := ⟨.type "function", none, .func (fnAt (stmtAt 49) (so "_law_plain_worker") (.none) (.str (so "law_og0020_01") 1013) (.ref 648)), #[]⟩
noncomputable def O653 (P : Params) : Obj := ⟨.type "code", none, .fields #[.str (so "_law_wrapper_right") 1069, .str (so "_law_wrapper_right") 1070, .str (so "/claim/cut.py") 1071, .int 342 0, .int 3 0, .int 0 0, .int 0 0, .int 3 0, .ref 650, .bool true, .int 181 0, .ref 651, .none, .none, .none, .ref 652, .int 1072 0, .int 342 0, .str (so "/claim/cut.py") 1073], #[]⟩
noncomputable def O654 (P : Params) : Obj := ⟨.type "function", none, .func (fnAt (stmtAt 50) (so "_law_wrapper_right") (.none) (.str (so "law_og0020_01") 1013) (.ref 653)), #[]⟩
noncomputable def O658 (P : Params) : Obj := ⟨.type "code", none, .fields #[.str (so "law") 1075, .str (so "law") 1076, .str (so "/claim/cut.py") 1077, .int 357 0, .int 1 0, .int 0 0, .int 0 0, .int 3 0, .ref 655, .bool true, .int 181 0, .ref 656, .none, .none, .none, .ref 657, .int 1078 0, .int 357 0, .str (so "/claim/cut.py") 1079], #[]⟩
noncomputable def O659 (P : Params) : Obj := ⟨.type "function", none, .func (fnAt (stmtAt 51) (so "law") (.none) (.str (so "law_og0020_01") 1013) (.ref 658)), #[]⟩
noncomputable def KF (P : Params) : Frag := [(3, O3 P), (34, O34 P), (35, O35 P), (48, O48 P), (49, O49 P), (58, O58 P), (59, O59 P), (76, O76 P), (77, O77 P), (90, O90 P), (91, O91 P), (100, O100 P), (101, O101 P), (118, O118 P), (119, O119 P), (130, O130 P), (131, O131 P), (140, O140 P), (141, O141 P), (158, O158 P), (159, O159 P), (172, O172 P), (173, O173 P), (182, O182 P), (183, O183 P), (200, O200 P), (201, O201 P), (210, O210 P), (211, O211 P), (220, O220 P), (221, O221 P), (238, O238 P), (239, O239 P), (241, O241 P), (242, O242 P), (259, O259 P), (260, O260 P), (271, O271 P), (272, O272 P), (281, O281 P), (282, O282 P), (299, O299 P), (300, O300 P), (321, O321 P), (322, O322 P), (379, O379 P), (380, O380 P), (382, O382 P), (383, O383 P), (393, O393 P), (394, O394 P), (398, O398 P), (399, O399 P), (403, O403 P), (404, O404 P), (408, O408 P), (409, O409 P), (413, O413 P), (414, O414 P), (448, O448 P), (452, O452 P), (453, O453 P), (457, O457 P), (458, O458 P), (464, O464 P), (465, O465 P), (469, O469 P), (470, O470 P), (476, O476 P), (477, O477 P), (483, O483 P), (484, O484 P), (488, O488 P), (489, O489 P), (493, O493 P), (494, O494 P), (498, O498 P), (499, O499 P), (505, O505 P), (506, O506 P), (512, O512 P), (513, O513 P), (526, O526 P), (527, O527 P), (529, O529 P), (530, O530 P), (547, O547 P), (548, O548 P), (557, O557 P), (558, O558 P), (568, O568 P), (569, O569 P), (577, O577 P), (578, O578 P), (584, O584 P), (585, O585 P), (591, O591 P), (592, O592 P), (598, O598 P), (599, O599 P), (601, O601 P), (602, O602 P), (612, O612 P), (613, O613 P), (619, O619 P), (620, O620 P), (626, O626 P), (627, O627 P), (633, O633 P), (634, O634 P), (638, O638 P), (639, O639 P), (643, O643 P), (644, O644 P), (648, O648 P), (649, O649 P), (653, O653 P), (654, O654 P), (658, O658 P), (659, O659 P)]
noncomputable def kAddrs : List Addr := [3, 34, 35, 48, 49, 58, 59, 76, 77, 90, 91, 100, 101, 118, 119, 130, 131, 140, 141, 158, 159, 172, 173, 182, 183, 200, 201, 210, 211, 220, 221, 238, 239, 241, 242, 259, 260, 271, 272, 281, 282, 299, 300, 321, 322, 379, 380, 382, 383, 393, 394, 398, 399, 403, 404, 408, 409, 413, 414, 448, 452, 453, 457, 458, 464, 465, 469, 470, 476, 477, 483, 484, 488, 489, 493, 494, 498, 499, 505, 506, 512, 513, 526, 527, 529, 530, 547, 548, 557, 558, 568, 569, 577, 578, 584, 585, 591, 592, 598, 599, 601, 602, 612, 613, 619, 620, 626, 627, 633, 634, 638, 639, 643, 644, 648, 649, 653, 654, 658, 659]
noncomputable def view : Program := { pw with main := { pw.main with body := [stmtAt 51] } }
noncomputable def looseNames : List Str := pw.boundNames.filter (fun n => n != so "law")
noncomputable def lhsP (p q : Program) (loose : List Str) (as : List Addr) (w : World) (s : SharedT) :=
  (runT treeTable p w 11 (some (.ref 6)) 5200 s (topStub p)).map fun S =>
    ((staticsOk [] s.abs.heap S.abs.heap && namesBound p S.abs.heap && gensDone S.abs && laidKept s.abs.heap S.abs.heap), openSeen q loose [] (fun _ => true) true S.abs, as.map (peekT S))
noncomputable def lhs (w : World) (os : OsState) := lhsP pw view looseNames kAddrs w (s0 w os)
lay_quick Mine.lhsP
end Mine
namespace Mine
theorem fast_eq : ∀ (w : World) (os : OsState), PySem.W.Fast.tw1099448937126117225 pw view looseNames kAddrs w (s0 w os) = some (true, openGood view looseNames, (KF w.params).map fun p => some p.2) := by
  intro w os
  kernel_rfl
theorem lhs_eq (w : World) (os : OsState) : lhs w os = some (true, openGood view looseNames, (KF w.params).map fun p => some p.2) := by
  unfold lhs
  rw [PySem.W.Fast.te1099448937126117225]; exact fast_eq w os
end Mine
namespace Mine
theorem boot_e : opening pw = plainProg pw.main.scope.names := by kernel_rfl
theorem boot_f (s : Shared) : fenceModules? pw s = some s := by kernel_rfl
theorem boot_size (P : Params) : ((boot_heap P).isNs mainGlobals && (Array.mk [] : Array GenState).size == 0, (boot_heap P).objs.size, (boot_heap P).nsMap mainGlobals "__annotations__") = (true, 11, some (.ref 6)) := by kernel_rfl
theorem no_mods : importedModules pw.main.body = [] := by kernel_rfl
theorem peeks_ok (S : SharedT) : ∀ (as : List Addr) (K : Frag), as.map (peekT S) = K.map (fun p => some p.2) → as.map S.abs.heap.get? = K.map fun p => some p.2
  | [], [], _ => rfl
  | [], _ :: _, h => by cases h
  | _ :: _, [], h => by cases h
  | a :: as, p :: K, h => by
    simp only [List.map_cons, List.cons.injEq] at h ⊢
    exact ⟨peekT_ok S h.1, peeks_ok S as K h.2⟩
theorem left_gen {p q : Program} {loose : List Str} {xt : Shared → Bool} {KF : Params → Frag} {as : List Addr} {N : Nat}
    (he : opening p = plainProg p.main.scope.names) (hf : ∀ s, fenceModules? p s = some s)
    (hno : importedModules p.main.body = [])
    (opn : ∀ w : World, (fencedOpening treeTable p w N).map (fun s => (s.heap, s.gens, s.drawn, s.toks)) = some (boot_heap w.params, Array.mk [], boot_drawn, boot_toks))
    (lhs_eq : ∀ (w : World) (os : OsState), ((runT treeTable p w 11 (some (.ref 6)) N (s0 w os) (topStub p)).map fun S =>
    ((staticsOk [] (s0 w os).abs.heap S.abs.heap && namesBound p S.abs.heap && gensDone S.abs && laidKept (s0 w os).abs.heap S.abs.heap), openSeen q loose [] xt true S.abs, as.map (peekT S))) = some (true, openGood q loose, (KF w.params).map fun p => some p.2)) :
    LeftO p q loose xt (fun s => as.map s.heap.get?) (fun w => (KF w.params).map fun p => some p.2) N true := fun w => by
  obtain ⟨⟨h, gs, d, k, os⟩, e, e'⟩ := Option.map_eq_some_iff.mp (opn w)
  injection e' with a1 e'
  injection e' with a2 e'
  injection e' with a3 a4
  subst a1 a2 a3 a4
  obtain ⟨S, hS, hv⟩ := Option.map_eq_some_iff.mp (lhs_eq w os)
  have hs0 : (s0 w os).abs = ⟨boot_heap w.params, Array.mk [], boot_drawn, boot_toks, os⟩ := by
    show (⟨absHeap (tree0 w.params) 11 (life0 w.params), _, _, _, _⟩ : Shared) = _
    rw [← tree0_ok]
    rfl
  have hrun := runT_of hS
  rw [hs0] at hrun hv
  obtain ⟨l1, hv⟩ := Prod.mk.inj hv
  obtain ⟨l2, l3⟩ := Prod.mk.inj hv
  obtain ⟨z1, z⟩ := Prod.mk.inj (boot_size w.params)
  obtain ⟨z2, z3⟩ := Prod.mk.inj z
  have t : topFrom treeTable p w N ⟨boot_heap w.params, Array.mk [], boot_drawn, boot_toks, os⟩ = some S.abs := by
    unfold topFrom
    dsimp only
    rw [z1, z2, z3, hrun, hno]
    show (match staticsOk [] (boot_heap w.params) S.abs.heap && namesBound p S.abs.heap && gensDone S.abs && laidKept (boot_heap w.params) S.abs.heap with | true => _ | false => _) = _
    rw [l1]
  unfold openEnds
  rw [e]
  show (topFrom treeTable p w N _).map _ = _
  rw [t, hno]
  exact congrArg some (Prod.ext l2 (peeks_ok S _ _ l3))
theorem left : LeftO pw view looseNames (fun _ => true) (fun s => kAddrs.map s.heap.get?) (fun w => (KF w.params).map fun p => some p.2) 5200 true :=
  left_gen boot_e boot_f no_mods (boot_open (p := pw) (N := 5200) boot_e rfl boot_f) lhs_eq
end Mine
namespace Mini
theorem ns {α : Type} {a : α} {P : Prop} (h : none = some a) : P := nomatch h
theorem sn {α : Type} {a : α} {P : Prop} (h : some a = none) : P := nomatch h
inductive V where
  | none | bool (b : Bool) | int (i : Int) | str (s : Str) | stat (a : Addr) | fn (n : Nat) | reg (r : Nat)
  | list (xs : List V) | tuple (xs : List V) | dictS (kvs : List (Str × V)) | dictI (kvs : List (Int × V))
  | inst (C : Addr) (fs : List (Str × V)) | range (n : Nat)
inductive Spec where
  | frozen (o : Obj)
  | pin (o : Obj)
  | temp (v : V)
  | var (L : Addr) (x : Str) (v : V)
  | ns (m : Str → Option Value)
  | cell (L : Addr) (x : Str) (c : Option Value)
  | reg (r : Nat) (v : V)
  | held (r : Nat) (o : Obj)
noncomputable abbrev RM := Addr → Option Spec
noncomputable def primVal : Nat → Value
  | 0 => .builtin "len" | 1 => .builtin "isinstance" | 2 => .builtin "all" | 3 => .builtin "ord" | 4 => .builtin "sorted" | 5 => .builtin "sum" | 6 => .builtin "max"
  | 7 => .type "list" | 8 => .type "dict" | 9 => .type "str" | 10 => .type "int" | 11 => .type "range" | 12 => .type "set" | 13 => .type "enumerate" | 14 => .type "reversed"
  | 15 => .builtin "str.join" | 16 => .builtin "str.rfind" | 17 => .builtin "str.isdigit" | 18 => .builtin "dict.get"
  | _ => .none
noncomputable abbrev rangeObj (n : Nat) (t u v : Tok) : Obj := { cls := .type "range", data := .fields #[.int 0 t, .int n u, .int 1 v] }
noncomputable abbrev PW : Program := PySem.Challenge.pw_og0020_01
noncomputable def DictObj {w : World} {K : Type} [DecidableEq K] (knd : KeyKind PW w K) (o : Obj) (kvs : List (K × Value)) : Prop :=
  ∃ es ep, o.ExactDict ∧ o.data = .dict es ep ∧ KeysOf knd es ∧ Pairs knd es.toList kvs ∧ (kvs.map (·.1)).Nodup
noncomputable def Spec.regNo : Spec → Option Nat
  | .reg r _ => some r
  | .held r _ => some r
  | _ => none
noncomputable def RegAt (R : RM) (a : Addr) (r : Nat) : Prop := ∃ sp, R a = some sp ∧ sp.regNo = some r
mutual
inductive RepV (w : World) (R : RM) : V → Value → Prop
  | none : RepV w R .none .none
  | bool (b : Bool) : RepV w R (.bool b) (.bool b)
  | int (i : Int) (t : Tok) : RepV w R (.int i) (.int i t)
  | str (s : Str) (t : Tok) : RepV w R (.str s) (.str s t)
  | stat (a : Addr) : RepV w R (.stat a) (.ref a)
  | fn (n : Nat) : RepV w R (.fn n) (primVal n)
  | reg (r : Nat) (a : Addr) : RegAt R a r → RepV w R (.reg r) (.ref a)
  | obj (v : V) (a : Addr) (o : Obj) : (a == sysModules) = false → R a = some (.frozen o) → RepO w R v o → RepV w R v (.ref a)
inductive RepO (w : World) (R : RM) : V → Obj → Prop
  | list (xs : List V) (items : List Value) (ep : Nat) : RepL w R xs items → RepO w R (.list xs) { cls := .type "list", data := .seq items.toArray ep }
  | tuple (xs : List V) (items : List Value) (ep : Nat) : RepL w R xs items → RepO w R (.tuple xs) { cls := .type "tuple", data := .seq items.toArray ep }
  | dictS (kvs : List (Str × V)) (o : Obj) (kvs' : List (Str × Value)) : DictObj (strKind PW w) o kvs' → kvs.map (·.1) = kvs'.map (·.1) → RepL w R (kvs.map (·.2)) (kvs'.map (·.2)) → RepO w R (.dictS kvs) o
  | dictI (kvs : List (Int × V)) (o : Obj) (kvs' : List (Int × Value)) : DictObj (intKind PW w) o kvs' → kvs.map (·.1) = kvs'.map (·.1) → RepL w R (kvs.map (·.2)) (kvs'.map (·.2)) → RepO w R (.dictI kvs) o
  | inst (C : Addr) (fs : List (Str × V)) (d : Addr) (o : Obj) (kvs' : List (Str × Value)) :
      R d = some (.frozen o) → DictObj (strKind PW w) o kvs' → fs.map (·.1) = kvs'.map (·.1) → RepL w R (fs.map (·.2)) (kvs'.map (·.2)) → RepO w R (.inst C fs) { cls := .ref C, dict := some d, data := .plain }
  | range (n : Nat) (t u v : Tok) : RepO w R (.range n) (rangeObj n t u v)
inductive RepL (w : World) (R : RM) : List V → List Value → Prop
  | nil : RepL w R [] []
  | cons (v : V) (x : Value) (vs : List V) (xs : List Value) : RepV w R v x → RepL w R vs xs → RepL w R (v :: vs) (x :: xs)
end
noncomputable def Le (R R' : RM) : Prop := (∀ a o, R a = some (.frozen o) → R' a = some (.frozen o)) ∧ (∀ a r, RegAt R a r → RegAt R' a r)
theorem Le.refl (R : RM) : Le R R := ⟨fun _ _ h => h, fun _ _ h => h⟩
theorem Le.trans {R S T : RM} (x : Le R S) (y : Le S T) : Le R T := ⟨fun a o h => y.1 a o (x.1 a o h), fun a r h => y.2 a r (x.2 a r h)⟩
section
variable {w : World} {R R' : RM} (le : Le R R')
include le
theorem RepV.mono {v : V} {x : Value} (h : RepV w R v x) : RepV w R' v x :=
  RepV.rec (motive_1 := fun v x _ => RepV w R' v x) (motive_2 := fun v o _ => RepO w R' v o) (motive_3 := fun vs xs _ => RepL w R' vs xs) .none .bool .int .str .stat .fn (fun r a h => .reg r a (le.2 a r h)) (fun v a o h1 h2 _ h => .obj v a o h1 (le.1 a o h2) h)
    (fun xs items ep _ h => .list xs items ep h) (fun xs items ep _ h => .tuple xs items ep h) (fun kvs o kvs' h1 h2 _ h => .dictS kvs o kvs' h1 h2 h) (fun kvs o kvs' h1 h2 _ h => .dictI kvs o kvs' h1 h2 h) (fun C fs d o kvs' h0 h1 h2 _ h => .inst C fs d o kvs' (le.1 d _ h0) h1 h2 h) .range
    .nil (fun v x vs xs _ _ h r => .cons v x vs xs h r) h
theorem RepL.mono {vs : List V} {xs : List Value} (h : RepL w R vs xs) : RepL w R' vs xs :=
  RepL.rec (motive_1 := fun v x _ => RepV w R' v x) (motive_2 := fun v o _ => RepO w R' v o) (motive_3 := fun vs xs _ => RepL w R' vs xs) .none .bool .int .str .stat .fn (fun r a h => .reg r a (le.2 a r h)) (fun v a o h1 h2 _ h => .obj v a o h1 (le.1 a o h2) h)
    (fun xs items ep _ h => .list xs items ep h) (fun xs items ep _ h => .tuple xs items ep h) (fun kvs o kvs' h1 h2 _ h => .dictS kvs o kvs' h1 h2 h) (fun kvs o kvs' h1 h2 _ h => .dictI kvs o kvs' h1 h2 h) (fun C fs d o kvs' h0 h1 h2 _ h => .inst C fs d o kvs' (le.1 d _ h0) h1 h2 h) .range
    .nil (fun v x vs xs _ _ h r => .cons v x vs xs h r) h
theorem RepO.mono {v : V} {o : Obj} (h : RepO w R v o) : RepO w R' v o := by
  cases h with
  | list xs items ep h => exact .list xs items ep (h.mono le)
  | tuple xs items ep h => exact .tuple xs items ep (h.mono le)
  | dictS kvs o kvs' h1 h2 h => exact .dictS kvs o kvs' h1 h2 (h.mono le)
  | dictI kvs o kvs' h1 h2 h => exact .dictI kvs o kvs' h1 h2 (h.mono le)
  | inst C fs d o kvs' hd h1 h2 h => exact .inst C fs d o kvs' (le.1 d _ hd) h1 h2 (h.mono le)
  | range n t u v => exact .range n t u v
end
structure Bs where
  w : World
  K : Frag
  hB : Heap
  os : OsState
  mg : Str → Option Value
  mb : Str → Option Value
  X : K.In hB
  lim : hB.NoLimit
  g : hB.Ns mainGlobals mg
  b : hB.Ns builtinsNs mb
  bi : ∀ x : Str, x ≠ "__name__" → mb x = bootBuiltins x
  sm : ∃ a o, sysModules ≤ a ∧ hB.get? a = some o
noncomputable def Holds (w : World) (R : RM) (h : Heap) (a : Addr) : Spec → Prop
  | .frozen o => h.get? a = some o
  | .pin o => h.get? a = some o
  | .temp v => ∃ o, h.get? a = some o ∧ RepO w R v o ∧ (a == sysModules) = false
  | .var _ _ v => ∃ o, h.get? a = some o ∧ RepO w R v o ∧ (a == sysModules) = false
  | .ns m => h.Ns a m
  | .cell _ _ c => h.IsCell a c
  | .reg _ v => ∃ o, h.get? a = some o ∧ RepO w R v o ∧ (a == sysModules) = false
  | .held _ o => h.get? a = some o ∧ (a == sysModules) = false
noncomputable def Spec.owner (a : Addr) : Spec → Option Addr
  | .var L _ _ => some L
  | .cell L _ _ => some L
  | .ns _ => some a
  | _ => none
structure HS (B : Bs) (R : RM) (s : Shared) : Prop where
  holds : ∀ a sp, R a = some sp → Holds B.w R s.heap a sp
  base : ∀ a o, B.hB.get? a = some o → R a = some (.frozen o)
  own : ∀ a sp L, R a = some sp → sp.owner a = some L → ∃ m, R L = some (.ns m)
  regs : ∀ a b r, RegAt R a r → RegAt R b r → a = b
  gens : s.gens = #[]
  os : s.os = B.os
theorem Holds.some {w : World} {R : RM} {h : Heap} {a : Addr} {sp : Spec} (x : Holds w R h a sp) : ∃ o, h.get? a = some o := by
  cases sp with
  | frozen o => exact ⟨o, x⟩
  | pin o => exact ⟨o, x⟩
  | temp v => exact x.imp fun _ y => y.1
  | var _ _ v => exact x.imp fun _ y => y.1
  | ns m => obtain ⟨o, _, _, y, _⟩ := x; exact ⟨o, y⟩
  | cell _ _ c => obtain ⟨o, y, _⟩ := x; exact ⟨o, y⟩
  | reg _ v => exact x.imp fun _ y => y.1
  | held _ o => exact ⟨o, x.1⟩
theorem Holds.lt {w : World} {R : RM} {h : Heap} {a : Addr} {sp : Spec} (x : Holds w R h a sp) : a < h.objs.size := let ⟨_, y⟩ := x.some; Heap.lt_size y
theorem Holds.mono {w : World} {R R' : RM} {h h' : Heap} {a : Addr} {sp : Spec} (le : Le R R') (k : ∀ o, h.get? a = Option.some o → h'.get? a = Option.some o) (x : Holds w R h a sp) : Holds w R' h' a sp := by
  cases sp with
  | frozen o => exact k _ x
  | pin o => exact k _ x
  | temp v => obtain ⟨o, y, z, q⟩ := x; exact ⟨o, k _ y, z.mono le, q⟩
  | var _ _ v => obtain ⟨o, y, z, q⟩ := x; exact ⟨o, k _ y, z.mono le, q⟩
  | ns m => obtain ⟨o, es, ep, y, z⟩ := x; exact ⟨o, es, ep, k _ y, z⟩
  | cell _ _ c => obtain ⟨o, y, z⟩ := x; exact ⟨o, k _ y, z⟩
  | reg _ v => obtain ⟨o, y, z, q⟩ := x; exact ⟨o, k _ y, z.mono le, q⟩
  | held _ o => exact ⟨k _ x.1, x.2⟩
noncomputable def upd (R : RM) (a : Addr) (sp : Spec) : RM := fun b => if b = a then some sp else R b
@[simp] theorem upd_same (R : RM) (a : Addr) (sp : Spec) : upd R a sp a = some sp := if_pos rfl
noncomputable def Spec.tag : Spec → Nat
  | .frozen _ => 0 | .pin _ => 1 | .temp _ => 2 | .var _ _ _ => 3 | .ns _ => 4 | .cell _ _ _ => 5 | .reg _ _ => 6 | .held _ _ => 7
theorem tag_ne {sp q : Spec} {P : Prop} (e : some sp = some q) (h : Nat.beq sp.tag q.tag = false) : P := by
  rw [Option.some.inj e, Nat.beq_refl] at h
  exact nomatch h
theorem upd_ne (R : RM) {a b : Addr} (sp : Spec) (h : b ≠ a) : upd R a sp b = R b := if_neg h
theorem upd_keep {R : RM} {a b : Addr} {sp q sp' : Spec} (ha : R a = some sp) (e : R b = some q) (h : Nat.beq sp.tag q.tag = false) : upd R a sp' b = some q :=
  (upd_ne R sp' fun hb => tag_ne (ha.symm.trans (hb ▸ e)) h).trans e
theorem upd_new {R : RM} {a b : Addr} {q sp' : Spec} (ha : R a = none) (e : R b = some q) : upd R a sp' b = some q :=
  (upd_ne R sp' fun hb => ns (ha.symm.trans (hb ▸ e))).trans e
theorem upd_back {R : RM} {a b : Addr} {q sp' : Spec} (e : upd R a sp' b = some q) (h : Nat.beq sp'.tag q.tag = false) : R b = some q :=
  (upd_ne R sp' fun hb => tag_ne ((upd_same R a sp').symm.trans (hb ▸ e)) h).symm.trans e
theorem upd_or {R : RM} {a b : Addr} {q sp' : Spec} (e : upd R a sp' b = some q) : (b = a ∧ q = sp') ∨ (b ≠ a ∧ R b = some q) := by
  by_cases hb : b = a
  · rw [hb, upd_same] at e; exact .inl ⟨hb, (Option.some.inj e).symm⟩
  · rw [upd_ne _ _ hb] at e; exact .inr ⟨hb, e⟩
theorem HS.lt {B : Bs} {R : RM} {s : Shared} (x : HS B R s) {a : Addr} {sp : Spec} (h : R a = some sp) : a < s.heap.objs.size := (x.holds a sp h).lt
theorem HS.fresh {B : Bs} {R : RM} {s : Shared} (x : HS B R s) : R s.heap.objs.size = none := by
  cases h : R s.heap.objs.size with
  | none => rfl
  | some sp => exact absurd (x.lt h) (Nat.lt_irrefl _)
theorem HS.keep {B : Bs} {R : RM} {s : Shared} (x : HS B R s) : ∀ b o, B.hB.get? b = some o → s.heap.get? b = some o := fun b o e => x.holds b _ (x.base b o e)
theorem HS.K {B : Bs} {R : RM} {s : Shared} (x : HS B R s) : B.K.In s.heap := B.X.keeps x.keep
theorem HS.K' {B : Bs} {R : RM} {s : Shared} (x : HS B R s) {a : Addr} {o : Obj} (e : B.K.lookup a = some o) : R a = some (.frozen o) := x.base a o (B.X a o e)
theorem HS.lim {B : Bs} {R : RM} {s : Shared} (x : HS B R s) : s.heap.NoLimit := B.lim.keeps x.keep
theorem HS.sm {B : Bs} {R : RM} {s : Shared} (x : HS B R s) : (s.heap.objs.size == sysModules) = false := by
  obtain ⟨a, o, hle, ho⟩ := B.sm
  have := Nat.lt_of_le_of_lt hle (Heap.lt_size (x.keep _ _ ho))
  exact beq_eq_false_iff_ne.mpr (Nat.ne_of_gt this)
theorem HS.frozen {B : Bs} {R : RM} {s : Shared} (x : HS B R s) {a : Addr} {o : Obj} (e : R a = some (.frozen o)) : s.heap.get? a = some o := x.holds a _ e
noncomputable def Stays (L : Option Addr) (R' : RM) (a : Addr) : Spec → Prop
  | .reg r _ => ∃ v', R' a = some (.reg r v')
  | .var L' x v => (L = none ∨ some L' ≠ L) → R' a = some (.var L' x v)
  | sp => R' a = some sp
structure Ext (L : Option Addr) (R R' : RM) : Prop where
  dom : ∀ a sp, R a = some sp → ∃ sp', R' a = some sp'
  old : ∀ a sp, R a = some sp → Stays L R' a sp
theorem Stays.of {L : Option Addr} {R' : RM} {a : Addr} {sp : Spec} (h : R' a = some sp) : Stays L R' a sp := by cases sp <;> first | exact h | exact ⟨_, h⟩ | exact fun _ => h
theorem Ext.refl (L : Option Addr) (R : RM) : Ext L R R := ⟨fun _ sp h => ⟨sp, h⟩, fun _ _ h => .of h⟩
theorem Ext.trans {L : Option Addr} {R S T : RM} (x : Ext L R S) (y : Ext L S T) : Ext L R T := ⟨fun a sp h => let ⟨sp', h'⟩ := x.dom a sp h; y.dom a sp' h', fun a sp h => by
  have h1 := x.old a sp h
  cases sp with
  | reg r v => obtain ⟨v', h'⟩ := h1; have h2 := y.old a _ h'; exact h2
  | var L' z v => exact fun n => y.old a _ (h1 n) n
  | _ => exact y.old a _ h1⟩
theorem Ext.weaken {L : Option Addr} {R S : RM} (x : Ext none R S) : Ext L R S := ⟨x.dom, fun a sp h => by
  have h1 := x.old a sp h
  cases sp with
  | var L' z v => exact fun _ => h1 (.inl rfl)
  | _ => exact h1⟩
theorem Ext.le {L : Option Addr} {R S : RM} (x : Ext L R S) : Le R S :=
  ⟨fun a o h => x.old a _ h, fun a r ⟨sp, h, e⟩ => by
    cases sp with
    | reg q v => cases e; obtain ⟨v', h'⟩ := x.old a _ h; exact ⟨_, h', rfl⟩
    | held q o => cases e; exact ⟨_, x.old a _ h, rfl⟩
    | _ => cases e⟩
theorem Ext.kept {L : Option Addr} {R R' : RM} (x : Ext L R R') {a : Addr} {sp : Spec} (h : R a = some sp) (hr : ∀ r v, sp ≠ .reg r v) (ho : L = none) : R' a = some sp := by
  have h1 := x.old a sp h
  cases sp with
  | reg r v => exact (hr r v rfl).elim
  | var L' z v => exact h1 (.inl ho)
  | _ => exact h1
theorem Ext.temp {L : Option Addr} {R S : RM} (x : Ext L R S) {a : Addr} {v : V} (h : R a = some (.temp v)) : S a = some (.temp v) := x.old a _ h
theorem Ext.pin {L : Option Addr} {R S : RM} (x : Ext L R S) {a : Addr} {o : Obj} (h : R a = some (.pin o)) : S a = some (.pin o) := x.old a _ h
theorem Ext.frozen {L : Option Addr} {R S : RM} (x : Ext L R S) {a : Addr} {o : Obj} (h : R a = some (.frozen o)) : S a = some (.frozen o) := x.old a _ h
theorem Ext.ns {L : Option Addr} {R S : RM} (x : Ext L R S) {a : Addr} {m : Str → Option Value} (h : R a = some (.ns m)) : S a = some (.ns m) := x.old a _ h
theorem Ext.cell {L : Option Addr} {R S : RM} (x : Ext L R S) {a L' : Addr} {z : Str} {c : Option Value} (h : R a = some (.cell L' z c)) : S a = some (.cell L' z c) := x.old a _ h
structure ExtS (L : Addr) (R R' : RM) : Prop where
  dom : ∀ a sp, R a = some sp → ∃ sp', R' a = some sp'
  reg : ∀ a r v, R a = some (.reg r v) → ∃ v', R' a = some (.reg r v')
  selfv : ∀ m, R L = some (.ns m) → ∃ m', R' L = some (.ns m') ∧ m' (Str.ofString "self") = m (Str.ofString "self")
  old : ∀ a sp, R a = some sp → sp.owner a ≠ some L → (∀ r v, sp ≠ .reg r v) → R' a = some sp
theorem Ext.toS {L : Addr} {R S : RM} (x : Ext (some L) R S) : ExtS L R S := ⟨x.dom, fun a r v h => x.old a _ h, fun m h => ⟨m, x.old L _ h, rfl⟩, fun a sp h ho hr => by
  have h1 := x.old a sp h
  cases sp with
  | reg r v => exact (hr r v rfl).elim
  | var L' z v => exact h1 (.inr ho)
  | _ => exact h1⟩
theorem ExtS.refl (L : Addr) (R : RM) : ExtS L R R := ⟨fun _ sp h => ⟨sp, h⟩, fun _ _ v h => ⟨v, h⟩, fun m h => ⟨m, h, rfl⟩, fun _ _ h _ _ => h⟩
theorem ExtS.trans {L : Addr} {R S T : RM} (x : ExtS L R S) (y : ExtS L S T) : ExtS L R T :=
  ⟨fun a sp h => let ⟨sp', h'⟩ := x.dom a sp h; y.dom a sp' h', fun a r v h => let ⟨v', h'⟩ := x.reg a r v h; y.reg a r v' h', fun m h => let ⟨m', h', e⟩ := x.selfv m h; let ⟨m₂, h₂, e₂⟩ := y.selfv m' h'; ⟨m₂, h₂, e₂.trans e⟩, fun a sp h ho hr => y.old a sp (x.old a sp h ho hr) ho hr⟩
theorem ExtS.le {L : Addr} {R S : RM} (x : ExtS L R S) : Le R S :=
  ⟨fun a o h => x.old a _ h (by simp [Spec.owner]) (by intro _ _ e; cases e), fun a r ⟨sp, h, e⟩ => by
    cases sp with
    | reg q v => cases e; obtain ⟨v', h'⟩ := x.reg a _ _ h; exact ⟨_, h', rfl⟩
    | held q o => cases e; exact ⟨_, x.old a _ h (by simp [Spec.owner]) (by intro _ _ e; cases e), rfl⟩
    | _ => cases e⟩
theorem ExtS.leave {B : Bs} {L : Addr} {R S : RM} {s : Shared} (H : HS B R s) (x : ExtS L R S) (h : R L = none) : Ext none R S := ⟨x.dom, fun a sp e => by
  have key : (∀ r v, sp ≠ .reg r v) → S a = some sp := fun hr => x.old a sp e (fun q => by
    obtain ⟨m, hm⟩ := H.own a _ L e q
    rw [h] at hm; cases hm) hr
  cases sp with
  | reg r v => exact x.reg a r v e
  | var L' z v => exact fun _ => key (by intro _ _ e; cases e)
  | _ => exact key (by intro _ _ e; cases e)⟩
section
variable {B : Bs} {R : RM} {s : Shared}
theorem HS.toks (x : HS B R s) (t : Nat) : HS B R { s with toks := t } := ⟨x.holds, x.base, x.own, x.regs, x.gens, x.os⟩
theorem le_upd_fresh {a : Addr} {sp : Spec} (h : R a = none) : Le R (upd R a sp) :=
  ⟨fun b o e => upd_new h e, fun b r ⟨q, e, e'⟩ => ⟨q, upd_new h e, e'⟩⟩
theorem ext_upd_fresh {L : Option Addr} {a : Addr} {sp : Spec} (h : R a = none) : Ext L R (upd R a sp) :=
  ⟨fun b q e => ⟨q, upd_new h e⟩, fun b q e => .of (upd_new h e)⟩
theorem HS.add (x : HS B R s) {a : Addr} {sp : Spec} (hn : R a = none) (hsp : Holds B.w (upd R a sp) s.heap a sp)
    (ho : ∀ L, sp.owner a = some L → L = a ∧ (∃ m, sp = .ns m) ∨ ∃ m, R L = some (.ns m)) (hr : sp.regNo = none) : HS B (upd R a sp) s := by
  have key : ∀ b r, RegAt (upd R a sp) b r → RegAt R b r := fun b r ⟨q, e, e'⟩ => (upd_or e).elim (fun h => by rw [h.2, hr] at e'; exact ns e') fun h => ⟨q, h.2, e'⟩
  refine ⟨fun b q e => ?_, fun b o' e => upd_new hn (x.base b o' e), fun b q L e eo => ?_, fun b c r e1 e2 => x.regs b c r (key b r e1) (key c r e2), x.gens, x.os⟩
  · rcases upd_or e with h | h
    · rw [h.1, h.2]; exact hsp
    · exact (x.holds b q h.2).mono (le_upd_fresh hn) fun _ y => y
  · rcases upd_or e with h | ⟨_, e⟩
    · rcases ho L (h.1 ▸ h.2 ▸ eo) with ⟨h1, m, h2⟩ | ⟨m, hm⟩
      · exact ⟨m, by rw [h1, upd_same, h2]⟩
      · exact ⟨m, upd_new hn hm⟩
    · exact (x.own b q L e eo).elim fun m hm => ⟨m, upd_new hn hm⟩
theorem HS.kept {s' : Shared} (H : HS B R s) (hk : ∀ b o, s.heap.get? b = some o → s'.heap.get? b = some o) (hg : s'.gens = s.gens) (ho : s'.os = s.os) : HS B R s' :=
  ⟨fun a sp e => (H.holds a sp e).mono (.refl R) fun o y => hk a o y, H.base, H.own, H.regs, hg.trans H.gens, ho.trans H.os⟩
theorem HS.alloc (x : HS B R s) {o : Obj} {sp : Spec} (hf : o.isFreed = false)
    (hsp : Holds B.w (upd R s.heap.objs.size sp) (s.heap.push o) s.heap.objs.size sp)
    (ho : ∀ L, sp.owner s.heap.objs.size = some L → L = s.heap.objs.size ∧ (∃ m, sp = .ns m) ∨ ∃ m, R L = some (.ns m))
    (hr : sp.regNo = none) : HS B (upd R s.heap.objs.size sp) { s with heap := s.heap.push o } :=
  (x.kept (s' := { s with heap := s.heap.push o }) (fun _ _ y => Heap.get?_push_of_some _ y) rfl rfl).add x.fresh hsp ho hr
theorem le_upd {a : Addr} {sp sp' : Spec} (ha : R a = some sp) (hnf : Nat.beq sp.tag 0 = false) (hr : ∀ r, sp.regNo = some r → sp'.regNo = some r) : Le R (upd R a sp') := by
  refine ⟨fun b o e => upd_keep ha e hnf, fun b r ⟨q, e, e'⟩ => ?_⟩
  by_cases hb : b = a
  · rw [hb, ha] at e
    exact ⟨sp', by rw [hb, upd_same], hr r (Option.some.inj e ▸ e')⟩
  · exact ⟨q, by rw [upd_ne _ _ hb]; exact e, e'⟩
theorem HS.change (x : HS B R s) {a : Addr} {sp sp' : Spec} {h' : Heap} {tk : Nat} (ha : R a = some sp) (hnf : Nat.beq sp.tag 0 = false) (hs : ∀ b o, b ≠ a → s.heap.get? b = some o → h'.get? b = some o)
    (hsp : Holds B.w (upd R a sp') h' a sp')
    (hns : sp.tag = 4 → sp'.tag = 4)
    (ho : ∀ L, sp'.owner a = some L → (∃ m, sp' = .ns m) ∧ L = a ∨ ∃ m, R L = some (.ns m) ∧ L ≠ a)
    (hr : ∀ r, sp.regNo = some r → sp'.regNo = some r)
    (hr' : ∀ r, sp'.regNo = some r → sp.regNo = some r ∨ ∀ b, ¬ RegAt R b r) :
    HS B (upd R a sp') { s with heap := h', toks := tk } ∧ Le R (upd R a sp') := by
  have le := le_upd (sp' := sp') ha hnf hr
  have nsk : ∀ L m, R L = some (.ns m) → ∃ m', upd R a sp' L = some (.ns m') := fun L m e => by
    by_cases hL : L = a
    · rw [hL, ha] at e
      have h4 := hns (by rw [Option.some.inj e]; rfl)
      rw [hL, upd_same]
      cases sp' with
      | ns m' => exact ⟨m', rfl⟩
      | _ => exact nomatch h4
    · exact ⟨m, by rw [upd_ne _ _ hL]; exact e⟩
  have key : ∀ b r, RegAt (upd R a sp') b r → RegAt R b r ∨ (b = a ∧ ∀ b, ¬ RegAt R b r) := fun b r ⟨q, e, e'⟩ => by
    rcases upd_or e with h | h
    · rw [h.1]; exact (hr' r (h.2 ▸ e')).imp (fun h => ⟨sp, ha, h⟩) fun h => ⟨rfl, h⟩
    · exact .inl ⟨q, h.2, e'⟩
  refine ⟨⟨fun b q e => ?_, fun b o' e => upd_keep ha (x.base b o' e) hnf, fun b q L e eo => ?_, fun b c r e1 e2 => ?_, x.gens, x.os⟩, le⟩
  · rcases upd_or e with h | h
    · rw [h.1, h.2]; exact hsp
    · exact (x.holds b q h.2).mono le fun o' y => hs b o' h.1 y
  · rcases upd_or e with h | h
    · rcases ho L (h.1 ▸ h.2 ▸ eo) with ⟨⟨m, h1⟩, h2⟩ | ⟨m, hm, hL⟩
      · exact ⟨m, by rw [h2, upd_same, h1]⟩
      · exact ⟨m, by rw [upd_ne _ _ hL]; exact hm⟩
    · exact (x.own b q L h.2 eo).elim fun m hm => nsk L m hm
  · rcases key b r e1 with h1 | h1 <;> rcases key c r e2 with h2 | h2
    · exact x.regs b c r h1 h2
    · exact (h2.2 _ h1).elim
    · exact (h1.2 _ h2).elim
    · rw [h1.1, h2.1]
theorem HS.swap (x : HS B R s) {a : Addr} {sp sp' : Spec} {h' : Heap} {tk : Nat} (ha : R a = some sp) (h0 : Nat.beq sp.tag 0 = false) (h4 : Nat.beq sp.tag 4 = false) (hs : ∀ b o, b ≠ a → s.heap.get? b = some o → h'.get? b = some o)
    (hsp : Holds B.w (upd R a sp') h' a sp') (ho : sp'.owner a = none ∨ ∃ m, sp'.owner a = sp.owner a ∧ sp.owner a = some m ∧ m ≠ a) (hr : sp.regNo = none) (hr' : sp'.regNo = none) : HS B (upd R a sp') { s with heap := h', toks := tk } ∧ Le R (upd R a sp') :=
  x.change ha h0 hs hsp (fun e => by rw [e] at h4; exact nomatch h4) (fun L e => by
    rcases ho with ho | ⟨m, h1, h2, hL⟩
    · rw [ho] at e; exact ns e
    · rw [h1, h2] at e
      cases e
      exact .inr ((x.own a sp _ ha h2).elim fun q hq => ⟨q, hq, hL⟩)) (fun r e => by rw [hr] at e; exact ns e) fun r e => by rw [hr'] at e; exact ns e
end
end Mini
namespace Mini
inductive Slot where
  | unset | val (v : V) | own (v : V) | self (C : Addr) (fs : List (Str × V))
noncomputable abbrev Rho := List (Str × Slot)
noncomputable abbrev Mu := List (Option V)
noncomputable abbrev St := Rho × Mu
noncomputable abbrev CallT := Addr → List V → Mu → Option (Slot × Mu)
inductive Fl where
  | next | ret (sl : Slot)
noncomputable def gdo {α : Type} (c : Bool) (o : Option α) : Option α := Bool.rec (motive := fun _ => Option α) none o c
noncomputable def elo {α β : Type} (o : Option β) (f : β → Option α) (g : Option α) : Option α := Option.rec (motive := fun _ => Option α) g f o
noncomputable def bro {α : Type} (c : Bool) (f g : Option α) : Option α := Bool.rec (motive := fun _ => Option α) g f c
noncomputable def one? {α : Type} : List α → Option α
  | [x] => some x
  | _ => none
noncomputable def two? {α : Type} : List α → Option (α × α)
  | x :: r => (one? r).map fun y => (x, y)
  | [] => none
noncomputable def V.none? : V → Bool
  | .none => true
  | _ => false
noncomputable def V.bool? : V → Option Bool
  | .bool b => some b
  | _ => .none
noncomputable def V.int? : V → Option Int
  | .int i => some i
  | _ => .none
noncomputable def V.str? : V → Option Str
  | .str s => some s
  | _ => .none
noncomputable def V.list? : V → Option (List V)
  | .list xs => some xs
  | _ => .none
noncomputable def V.tuple? : V → Option (List V)
  | .tuple xs => some xs
  | _ => .none
noncomputable def V.dictS? : V → Option (List (Str × V))
  | .dictS kvs => some kvs
  | _ => .none
noncomputable def V.inst? : V → Option (Addr × List (Str × V))
  | .inst C fs => some (C, fs)
  | _ => .none
noncomputable def V.reg? : V → Option Nat
  | .reg r => some r
  | _ => .none
noncomputable def V.fn? : V → Bool
  | .fn _ => true
  | _ => false
noncomputable def V.stat? : V → Option Addr
  | .stat a => some a
  | _ => .none
noncomputable def Slot.v? : Slot → Option V
  | .val v => some v
  | .own v => some v
  | _ => none
noncomputable def Slot.val? : Slot → Option V
  | .val v => some v
  | _ => none
noncomputable def Slot.own? : Slot → Option V
  | .own v => some v
  | _ => none
noncomputable def Slot.self? : Slot → Option (Addr × List (Str × V))
  | .self C fs => some (C, fs)
  | _ => none
noncomputable def setv : Rho → Str → Slot → Rho
  | [], x, sl => [(x, sl)]
  | (y, t) :: r, x, sl => match y == x with
    | true => (y, sl) :: r
    | false => (y, t) :: setv r x sl
noncomputable def muGet : Mu → Nat → Option V
  | [], _ => none
  | v :: _, 0 => v
  | _ :: r, n + 1 => muGet r n
noncomputable def muSet : Mu → Nat → V → Mu
  | [], _, _ => []
  | _ :: r, 0, v => some v :: r
  | u :: r, n + 1, v => u :: muSet r n v
noncomputable def regVal (μ : Mu) (r : Nat) : Option V := (muGet μ r).bind fun v => gdo (!v.fn?) (some v)
noncomputable def deref (μ : Mu) (v : V) : Option V := elo v.reg? (regVal μ) (some v)
noncomputable def so (x : String) : Str := Str.ofString x
noncomputable def fits (n : Nat) : Bool := Nat.ble n 16000000
noncomputable def regOf (x : Str) : Option Nat := [(so "source", 0), (so "box", 1), (so "met", 2), (so "avoided", 3), (so "numbers", 4)].lookup x
noncomputable def fieldTab : List (Addr × List Str) := [
  (59, [so "name"]), (101, [so "kind", so "value"]), (141, [so "fun", so "args"]), (183, [so "params", so "body"]), (221, [so "binds", so "body", so "is_rec"]),
  (242, [so "key", so "names", so "body"]), (282, [so "value", so "name", so "alts", so "other"]), (322, [so "name", so "args"]), (383, [so "place", so "con", so "fields"]),
  (530, [so "name", so "tag", so "arity", so "stricts", so "type_name", so "scheme", so "siblings", so "is_newtype"]), (558, [so "flags", so "free", so "diverges"]), (602, [so "avoided", so "numbers"])]
noncomputable def isField (C : Addr) (a : Str) : Bool := match fieldTab.lookup C with
  | some l => l.contains a
  | none => false
noncomputable def methTab : List (Addr × List (Str × Addr)) := [
  (59, [(so "parts", 49)]), (101, [(so "parts", 91)]), (141, [(so "parts", 131)]), (183, [(so "parts", 173)]), (221, [(so "parts", 211)]), (282, [(so "parts", 272)]),
  (602, [(so "avoid", 592), (so "next", 599)])]
noncomputable def methOf (C : Addr) (a : Str) : Option Addr := (methTab.lookup C).bind fun l => l.lookup a
noncomputable def keyWords : List Str := [so "int", so "char", so "app", so "lam", so "let", so "letrec", so "case", so "of", so "is", so "else", so "con", so "prim", so "program"]
noncomputable def glTab : List (Str × V) := [
  (so "Var", .stat 59), (so "Lit", .stat 101), (so "App", .stat 141), (so "Lam", .stat 183), (so "Let", .stat 221), (so "Alt", .stat 242), (so "Case", .stat 282),
  (so "Con", .stat 322), (so "Prim", .stat 362), (so "Split", .stat 383), (so "ConInfo", .stat 530), (so "Signature", .stat 558), (so "Fresh", .stat 602),
  (so "is_alone", .stat 394), (so "scrutinised", .stat 399), (so "splits_of", .stat 404), (so "worker_of", .stat 409), (so "wrapper_of", .stat 414),
  (so "KEY_WORDS", .tuple (keyWords.map .str)), (so "NEVER_BARE", .str (so "()| ")), (so "is_number", .stat 453), (so "is_bare", .stat 458), (so "name_text", .stat 465),
  (so "names_text", .stat 470), (so "literal_text", .stat 477), (so "key_text", .stat 484), (so "binds_text", .stat 489), (so "case_text", .stat 494), (so "row_text", .stat 499),
  (so "inner_text", .stat 506), (so "core_text", .stat 513), (so "base_of", .stat 569), (so "_law_pool", .stat 613), (so "_law_take", .stat 620), (so "_law_one", .stat 627),
  (so "_law_new", .stat 634), (so "_law_cons", .stat 639), (so "_law_body", .stat 644), (so "_law_plain_worker", .stat 649), (so "_law_wrapper_right", .stat 654),
  (so "len", .fn 0), (so "isinstance", .fn 1), (so "all", .fn 2), (so "ord", .fn 3), (so "sorted", .fn 4),
  (so "sum", .fn 5), (so "max", .fn 6), (so "list", .fn 7), (so "dict", .fn 8), (so "str", .fn 9), (so "int", .fn 10),
  (so "range", .fn 11), (so "set", .fn 12), (so "enumerate", .fn 13), (so "reversed", .fn 14)]
noncomputable def gl (x : Str) : Option V := glTab.lookup x
noncomputable def sign (c : Nat) : Str := ⟨#[c]⟩
noncomputable def upFrom (f : Nat → V) : Nat → Nat → List V
  | 0, _ => []
  | n + 1, i => f i :: upFrom f n (i + 1)
noncomputable def items : V → Option (List V)
  | .list xs => some xs
  | .dictS kvs => some (kvs.map fun p => .str p.1)
  | .str s => some (s.cps.toList.map fun c => .str (sign c))
  | .range n => some (upFrom (fun i => .int i) n 0)
  | _ => none
noncomputable def look {K : Type} [BEq K] (k : K) : List (K × V) → Option V
  | [] => none
  | (y, v) :: r => match y == k with
    | true => some v
    | false => look k r
noncomputable def put {K : Type} [BEq K] (k : K) (v : V) : List (K × V) → List (K × V)
  | [] => [(k, v)]
  | (y, u) :: r => match y == k with
    | true => (y, v) :: r
    | false => (y, u) :: put k v r
noncomputable def nth : List V → Nat → Option V
  | [], _ => none
  | v :: _, 0 => some v
  | _ :: r, n + 1 => nth r n
noncomputable def setNth : List V → Nat → V → List V
  | [], _, _ => []
  | _ :: r, 0, v => v :: r
  | u :: r, n + 1, v => u :: setNth r n v
mutual
noncomputable def dat : V → Option PyData
  | .none => some .none
  | .bool b => some (.bool b)
  | .int i => some (.int i)
  | .str s => some (.str s)
  | .list xs => (dats xs).map .list
  | .tuple xs => (dats xs).map .tuple
  | _ => none
noncomputable def dats : List V → Option (List PyData)
  | [] => some []
  | x :: r => (dat x).bind fun d => (dats r).map fun ds => d :: ds
end
noncomputable def veqG (a b : V) : Option Bool := (dat a).bind fun x => (dat b).bind fun y => gdo (PySem.SeqAt.shaped x) (gdo (PySem.SeqAt.shaped y) (some (PyData.eqv x y)))
noncomputable def veq (a b : V) : Option Bool := elo a.str? (fun x => elo b.str? (fun y => some (x == y)) (veqG a b)) (elo a.int? (fun x => elo b.int? (fun y => some (x == y)) (veqG a b)) (veqG a b))
noncomputable def veqd : List (Str × V) → List (Str × V) → Option Bool
  | [], _ => some true
  | (k, x) :: xs, ys => elo (look k ys) (fun y => (veq x y).bind fun a => (veqd xs ys).map fun b => a && b) (some false)
noncomputable def cmpEq (a b : V) : Option Bool := elo a.dictS? (fun xs => elo b.dictS? (fun ys => bro (xs.length == ys.length) (veqd xs ys) (some false)) (veq a b)) (veq a b)
noncomputable def strIn (k : V) : List V → Option Bool
  | [] => some false
  | v :: r => v.str?.bind fun y => match k with
    | .str x => (strIn k r).map fun b => (y == x) || b
    | .none => strIn k r
    | _ => none
noncomputable def isIn (k : V) : V → Option Bool
  | .list xs => strIn k xs
  | .tuple xs => strIn k xs
  | .dictS kvs => k.str?.map fun x => (look x kvs).isSome
  | .dictI kvs => k.int?.map fun x => (look x kvs).isSome
  | .str s => k.str?.map fun x => Txt.contains s x
  | _ => none
noncomputable def noneSays : V → Option Bool
  | .none => some true
  | .inst _ _ => some false
  | .str _ => some false
  | _ => none
noncomputable def int2 (a b : V) (f : Int → Int → Option Slot) : Option Slot := a.int?.bind fun i => b.int?.bind fun j => f i j
noncomputable def int2B (a b : V) (f : Int → Int → Bool) : Option Bool := a.int?.bind fun i => b.int?.map fun j => f i j
noncomputable def cmpop (op : CmpOp) (a b : V) : Option Bool := match op with
  | .Eq => cmpEq a b
  | .NotEq => (cmpEq a b).map not
  | .In => isIn a b
  | .NotIn => (isIn a b).map not
  | .Is => gdo b.none? (noneSays a)
  | .IsNot => gdo b.none? ((noneSays a).map not)
  | .Lt => int2B a b fun i j => decide (i < j)
  | .LtE => none
  | .Gt => int2B a b fun i j => decide (i > j)
  | .GtE => int2B a b fun i j => decide (i ≥ j)
noncomputable def addStr (a b : Str) : Option Str := gdo (fits (a.length + b.length)) (some (a ++ b))
noncomputable def addList (a b : List V) : Option (List V) := gdo (fits (a.length + b.length)) (some (a ++ b))
noncomputable def small (i : Int) : Bool := Nat.ble i.natAbs (10 ^ 60)
noncomputable def num (i : Int) : Option Slot := some (.val (.int i))
noncomputable def addV (a b : V) : Option Slot := match a with
  | .int i => b.int?.bind fun j => num (i + j)
  | .str s => b.str?.bind fun t => (addStr s t).map fun r => .val (.str r)
  | .list xs => b.list?.bind fun ys => (addList xs ys).map fun r => .own (.list r)
  | _ => none
noncomputable def mulV (a b : V) : Option Slot := match a with
  | .int i => b.int?.bind fun j => gdo (Nat.blt i.natAbs (2 ^ 64) || Nat.blt j.natAbs (2 ^ 64)) (num (i * j))
  | .list xs => (one? xs).bind fun x => b.int?.bind fun j => gdo (decide (0 ≤ j)) (gdo (fits j.toNat) (some (.own (.list (List.replicate j.toNat x)))))
  | _ => none
noncomputable def binop (op : Operator) (a b : V) : Option Slot := match op with
  | .Add => addV a b
  | .Sub => int2 a b fun i j => num (i - j)
  | .Mult => mulV a b
  | .Mod => int2 a b fun i j => gdo (decide (0 < j)) (num (i % j))
  | .FloorDiv => int2 a b fun i j => gdo (decide (0 < j)) (gdo (decide (j < 1073741824)) (num (i / j)))
  | .Pow => int2 a b fun i j => gdo (decide (i = 10)) (gdo (decide (j = 18)) (num (10 ^ 18)))
  | _ => none
noncomputable def allB : List V → Option Bool
  | [] => some true
  | v :: r => v.bool?.bind fun b => (allB r).map fun c => b && c
noncomputable def sumL : List V → List V → Option (List V)
  | [], acc => some acc
  | v :: r, acc => v.list?.bind fun xs => (addList acc xs).bind fun acc' => sumL r acc'
noncomputable def strsOf : List V → Option (List Str)
  | [] => some []
  | v :: r => v.str?.bind fun s => (strsOf r).map fun t => s :: t
noncomputable def joinS (sep : Str) (xs : List V) : Option Str := (strsOf xs).bind fun ts => gdo (JoinOk sep ts) (some (Txt.join sep ts))
noncomputable def pairsS : List V → List (Str × V) → Option (List (Str × V))
  | [], acc => some acc
  | p :: r, acc => p.tuple?.bind fun xs => (two? xs).bind fun q => q.1.str?.bind fun k => pairsS r (put k q.2 acc)
noncomputable def decS (i : Int) : Str := Str.ofString (toString i)
noncomputable def ltL : List Nat → List Nat → Bool
  | [], [] => false
  | [], _ :: _ => true
  | _ :: _, [] => false
  | a :: r, b :: q => if a == b then ltL r q else Nat.blt a b
noncomputable def insS (x : Str) : List Str → List Str
  | [] => [x]
  | y :: r => match ltL x.cps.toList y.cps.toList with
    | true => x :: y :: r
    | false => y :: insS x r
noncomputable def sortS : List Str → List Str
  | [] => []
  | x :: r => insS x (sortS r)
noncomputable def insts : List Addr := [59, 101, 141, 183, 221, 242, 282, 322, 383, 530, 558, 602]
noncomputable def isClasses : List Addr := [59, 101, 141, 183, 221, 282, 322]
noncomputable def three? (vs : List V) : Option (V × V × V) := match vs with
  | x :: r => (two? r).map fun p => (x, p)
  | [] => none
noncomputable def listOf (vs : List V) (f : List V → Option Slot) : Option Slot := (one? vs).bind fun v => v.list?.bind fun xs => gdo (fits xs.length) (f xs)
noncomputable def dictOr (v : V) (f : List (Str × V) → Option Slot) (g : List V → Option Slot) : Option Slot := match v with
  | .dictS kvs => f kvs
  | .list xs => g xs
  | _ => none
noncomputable def intOf (vs : List V) (f : Int → Option Slot) : Option Slot := (one? vs).bind fun v => v.int?.bind f
noncomputable def primTab : List (List V → Option Slot) := [
  fun vs => listOf vs fun xs => num xs.length,
  fun vs => (two? vs).bind fun p => p.1.inst?.bind fun i => p.2.stat?.bind fun C => gdo (insts.contains i.1) (gdo (isClasses.contains C) (some (.val (.bool (i.1 == C))))),
  fun vs => listOf vs fun xs => (allB xs).map fun b => .val (.bool b),
  fun vs => (one? vs).bind fun v => v.str?.bind fun s => (one? s.cps.toList).bind fun c => num c,
  fun vs => (one? vs).bind fun v => v.dictS?.bind fun kvs => gdo (Nat.ble kvs.length 60) (some (.own (.list ((sortS (kvs.map (·.1))).map .str)))),
  fun vs => (two? vs).bind fun p => p.1.list?.bind fun xs => p.2.list?.bind fun ys => gdo ys.isEmpty (gdo (fits xs.length) ((sumL xs []).map fun r => .val (.list r))),
  fun vs => (two? vs).bind fun p => int2 p.1 p.2 fun a b => num (if a < b then b else a),
  fun vs => listOf vs fun xs => some (.own (.list xs)),
  fun vs => (one? vs).bind fun v => dictOr v (fun kvs => gdo (fits kvs.length) (some (.own (.dictS kvs)))) fun xs => gdo (fits xs.length) ((pairsS xs []).map fun r => .own (.dictS r)),
  fun vs => intOf vs fun i => gdo (Nat.blt i.natAbs (2 ^ 64)) (some (.val (.str (decS i)))),
  fun vs => (one? vs).bind fun v => match v with
    | .int i => num i
    | .bool b => num (if b then 1 else 0)
    | _ => none,
  fun vs => intOf vs fun i => gdo (decide (0 ≤ i)) (gdo (fits i.toNat) (some (.val (.range i.toNat)))),
  fun _ => none, fun _ => none, fun _ => none,
  fun vs => (two? vs).bind fun p => p.1.str?.bind fun sep => p.2.list?.bind fun xs => (joinS sep xs).map fun r => .val (.str r),
  fun vs => (two? vs).bind fun p => p.1.str?.bind fun s => p.2.str?.bind fun t => num (Txt.rfind s t),
  fun vs => (one? vs).bind fun v => v.str?.map fun s => .val (.bool (Txt.isdigit s)),
  fun vs => (three? vs).bind fun p => p.1.dictS?.bind fun kvs => p.2.1.str?.map fun k => .val ((look k kvs).getD p.2.2)]
noncomputable def prim (n : Nat) (vs : List V) : Option Slot := (primTab[n]?).bind fun f => f vs
inductive OwnM where
  | append | extend | pop | update | get
noncomputable def ownOp (m : Str) : V → Option OwnM
  | .list _ => [(so "append", OwnM.append), (so "extend", .extend), (so "pop", .pop)].lookup m
  | .dictS _ => [(so "update", OwnM.update), (so "get", .get)].lookup m
  | .dictI _ => [(so "update", OwnM.update), (so "get", .get)].lookup m
  | _ => none
noncomputable def lastOf (xs : List V) : Option (V × V) := match xs.reverse with
  | [] => none
  | y :: r => some (.list r.reverse, y)
noncomputable def ownGet (c k d : V) : Option (V × V) := match c with
  | .dictS xs => match k with
    | .str k => some (c, (look k xs).getD d)
    | .int _ => gdo xs.isEmpty (some (c, d))
    | _ => none
  | .dictI xs => k.int?.map fun k => (c, (look k xs).getD d)
  | _ => none
noncomputable def ownDo (op : OwnM) (c : V) (args : List V) : Option (V × V) := match op with
  | .append => c.list?.bind fun xs => (one? args).bind fun v => (addList xs [v]).map fun r => (.list r, .none)
  | .extend => c.list?.bind fun xs => (one? args).bind fun v => v.list?.bind fun ys => (addList xs ys).map fun r => (.list r, .none)
  | .pop => c.list?.bind fun xs => gdo args.isEmpty (gdo (fits xs.length) (lastOf xs))
  | .update => c.dictS?.bind fun xs => (one? args).bind fun v => v.dictS?.bind fun ys => gdo (fits (xs.length + ys.length)) (some (.dictS (ys.foldl (fun acc p => put p.1 p.2 acc) xs), .none))
  | .get => (two? args).bind fun p => ownGet c p.1 p.2
noncomputable def putItem (c k v : V) : Option V := match c with
  | .list xs => k.int?.bind fun i => gdo (decide (0 ≤ i)) (gdo (fits i.toNat) (gdo (Nat.blt i.toNat xs.length) (some (.list (setNth xs i.toNat v)))))
  | .dictS xs => match k with
    | .str x => gdo (fits xs.length) (some (.dictS (put x v xs)))
    | .int x => gdo xs.isEmpty (some (.dictI [(x, v)]))
    | _ => none
  | .dictI xs => k.int?.bind fun x => gdo (fits xs.length) (some (.dictI (put x v xs)))
  | _ => none
noncomputable def atI (xs : List V) (k : V) : Option V := k.int?.bind fun i => gdo (decide (0 ≤ i)) (gdo (fits i.toNat) (nth xs i.toNat))
noncomputable def getItemM (c k : V) : Option V := match c with
  | .list xs => atI xs k
  | .tuple xs => atI xs k
  | .dictS xs => k.str?.bind fun x => look x xs
  | .dictI xs => k.int?.bind fun x => look x xs
  | _ => none
noncomputable def sliceIs (lo hi : Option Int) (n : Nat) : List Nat := Builtin.Str.strSliceIndices lo hi 1 n
noncomputable def sliceS (x : Str) (lo hi : Option Int) : Option Str := bro ((sliceIs lo hi x.length).length == x.length) (some x) (gdo (fits ((sliceIs lo hi x.length).filterMap (x.cps[·]?)).length) (some ⟨((sliceIs lo hi x.length).filterMap (x.cps[·]?)).toArray⟩))
noncomputable def backIs (n : Nat) : List Nat := sliceRange (sliceBounds none none (some (-1)) n).1 (sliceBounds none none (some (-1)) n).2.1 (sliceBounds none none (some (-1)) n).2.2
noncomputable def backwards (xs : List V) : List V := (backIs xs.length).filterMap (xs[·]?)
noncomputable def kindAt (sc : Scope) (x : Str) : Option NameKind := sc.names.lookup x
noncomputable def isLoc (sc : Scope) (x : Str) : Bool := decide (sc.names.lookup x = some .local)
noncomputable def isCell (sc : Scope) (x : Str) : Bool := decide (sc.names.lookup x = some .cell)
noncomputable def isGlob (sc : Scope) (x : Str) : Bool := decide (sc.names.lookup x = some .globalImplicit)
noncomputable def isDebug (x : Str) : Bool := x == so "__debug__"
noncomputable def bindOwn (x : Str) (v : V) (σ : St) : Option St := elo (regOf x) (fun r => gdo (muGet σ.2 r).isNone (some (setv σ.1 x (.val (.reg r)), muSet σ.2 r v))) (some (setv σ.1 x (.own v), σ.2))
noncomputable def bindGo (x : Str) (sl : Slot) (σ : St) : Option St := match sl with
  | .val v => some (setv σ.1 x (.val v), σ.2)
  | .own v => bindOwn x v σ
  | _ => none
noncomputable def bindM (sc : Scope) (x : Str) (sl : Slot) (σ : St) : Option St := gdo (!(x == so "self")) (gdo (isLoc sc x || isCell sc x) (bindGo x sl σ))
noncomputable def bindLoc (loc : Bool) (sc : Scope) (x : Str) (sl : Slot) (σ : St) : Option St := gdo (!loc || isLoc sc x) (bindM sc x sl σ)
inductive EV where
  | name (x : Str) (p : Pos) | tup (es : List Expr) | call (f : Expr) (args : List Expr) (kws : List Keyword) (p : Pos) | list (es : List Expr) | slice (lo up st : Option Expr)
  | attr (o : Expr) (a : Str) (p : Pos) | sub (o i : Expr) | un (op : UnaryOp) (e : Expr) | const (c : Const) | set | bin (l : Expr) (op : Operator) (r : Expr) | bool (op : BoolOp) (vs : List Expr)
  | cmp (l : Expr) (ops : List CmpOp) (cs : List Expr) | ife (t a b : Expr) | dict (ks : List (Option Expr)) (vs : List Expr) | comp (elt : Expr) (gs : List Comprehension) (s : Scope) | dcomp (k v : Expr) (gs : List Comprehension) (s : Scope) | other
noncomputable def evOf : Expr → EV
  | .Name x p => .name x p
  | .Tuple es _ _ => .tup es
  | .Call f args kws p => .call f args kws p
  | .List es _ => .list es
  | .Slice lo up st _ => .slice lo up st
  | .Attribute o a p => .attr o a p
  | .Subscript o i _ => .sub o i
  | .UnaryOp op e _ => .un op e
  | .Constant c _ _ => .const c
  | .Set _ _ _ => .set
  | .BinOp l op r _ => .bin l op r
  | .BoolOp op vs _ => .bool op vs
  | .Compare l ops cs _ => .cmp l ops cs
  | .IfExp t a b _ => .ife t a b
  | .Dict ks vs _ => .dict ks vs
  | .ListComp elt gs s _ => .comp elt gs s
  | .DictComp k v gs s _ => .dcomp k v gs s
  | _ => .other
noncomputable def EV.name? : EV → Option Str
  | .name x _ => some x
  | _ => none
noncomputable def EV.tup? : EV → Option (List Expr)
  | .tup es => some es
  | _ => none
noncomputable def EV.call? : EV → Option (Expr × List Expr × Bool)
  | .call f args kws _ => some (f, args, kws.isEmpty)
  | _ => none
noncomputable def EV.list? : EV → Option (List Expr)
  | .list es => some es
  | _ => none
noncomputable def EV.slice? : EV → Option (Option Expr × Option Expr × Option Expr)
  | .slice lo up st => some (lo, up, st)
  | _ => none
noncomputable def EV.set? : EV → Bool
  | .set => true
  | _ => false
noncomputable def EV.one? : EV → Bool
  | .const c => decide (c = .int 1)
  | _ => false
noncomputable def EV.neg? : EV → Option Expr
  | .un op e => gdo (decide (op = .USub)) (some e)
  | _ => none
noncomputable def nameOf (e : Expr) : Option Str := (evOf e).name?
noncomputable def tupOf (e : Expr) : Option (List Expr) := (evOf e).tup?
noncomputable def callOf (e : Expr) : Option (Expr × List Expr × Bool) := (evOf e).call?
noncomputable def listOfE (e : Expr) : Option (List Expr) := (evOf e).list?
noncomputable def sliceOf (e : Expr) : Option (Option Expr × Option Expr × Option Expr) := (evOf e).slice?
noncomputable def isSetE (e : Expr) : Bool := (evOf e).set?
noncomputable def minusOne (e : Expr) : Bool := match (evOf e).neg? with
  | some x => (evOf x).one?
  | none => false
noncomputable def bindEach (loc : Bool) (sc : Scope) : List Expr → List V → St → Option St
  | [], vs, σ => gdo vs.isEmpty (some σ)
  | t :: ts, vs, σ => (nameOf t).bind fun x => match vs with
    | [] => none
    | v :: vs => (bindLoc loc sc x (.val v) σ).bind fun σ' => bindEach loc sc ts vs σ'
noncomputable def bindTo (loc : Bool) (sc : Scope) (t : Expr) (v : V) (σ : St) : Option St := match evOf t with
  | .name x _ => bindLoc loc sc x (.val v) σ
  | .tup ts => v.tuple?.bind fun vs => bindEach loc sc ts vs σ
  | _ => none
noncomputable def reScope (sc par : Scope) : Scope :=
  { sc with names := sc.names.map fun (n, k) => if (k == .free && par.names.lookup n == some .cell) then (n, .cell) else (n, k) }
noncomputable def isFree (all : List (Str × NameKind)) (x : Str) : Bool := decide (all.lookup x = some .free)
noncomputable def isLocal (all : List (Str × NameKind)) (x : Str) : Bool := decide (all.lookup x = some .local)
noncomputable def captured (sc : Scope) (all : List (Str × NameKind)) (ρ : Rho) : List (Str × NameKind) → Option Rho
  | [] => some []
  | (x, k) :: r => (captured sc all ρ r).bind fun c => match k with
    | .free => gdo (isCell sc x) (gdo (isFree all x) ((ρ.lookup x).bind fun sl => sl.v?.map fun v => (x, .val v) :: c))
    | .cell => none
    | .local => gdo (isLocal all x) (some c)
    | _ => some c
noncomputable def thaw1 (ρ : Rho) (x : Str) (k : NameKind) : Rho := match k with
  | .free => match (ρ.lookup x).bind Slot.own? with
    | some v => setv ρ x (.val v)
    | none => ρ
  | _ => ρ
noncomputable def thaw (ρ : Rho) : List (Str × NameKind) → Rho
  | [] => ρ
  | (x, k) :: r => thaw (thaw1 ρ x k) r
noncomputable def overM (v : V) : Option (List V) := (items v).bind fun xs => gdo (fits xs.length) (some xs)
noncomputable def overL (μ : Mu) (v : V) : Option (List V × Mu × (Mu → Mu)) := elo v.reg? (fun r => (regVal μ r).bind fun c => c.list?.map fun xs => (xs, muSet μ r (.fn 99), fun μ' => muSet μ' r (.list xs))) ((items v).map fun xs => (xs, μ, fun μ' => μ'))
noncomputable def distinct : List V → List Str → Option Nat
  | [], acc => some acc.length
  | v :: r, acc => v.str?.bind fun s => distinct r (match acc.contains s with | true => acc | false => s :: acc)
noncomputable def lenset (xs : List V) : Option V := gdo (Nat.ble xs.length 100) ((distinct xs []).map fun (m : Nat) => V.int m)
namespace P
inductive Q where
  | prim (n : Nat) (vs : List V) | bin (op : Operator) (a b : V) | get (c k : V) | put (c k v : V) | lenset (xs : List V) | own (op : OwnM) (c : V) (vs : List V)
  | cmp (op : CmpOp) (a b : V) | have (b : Bool) | call (a : Addr) (vs : List V) (μ : Mu)
inductive An where
  | call (sl : Slot) (μ : Mu) | slot (sl : Slot) | val (v : V) | pair (v w : V) | bool (b : Bool) | lst (xs : List V) (σ : St)
noncomputable def An.call? : An → Option (Slot × Mu)
  | .call sl μ => some (sl, μ)
  | _ => none
noncomputable def An.slot? : An → Option Slot
  | .slot sl => some sl
  | _ => none
noncomputable def An.val? : An → Option V
  | .val v => some v
  | _ => none
noncomputable def An.pair? : An → Option (V × V)
  | .pair v w => some (v, w)
  | _ => none
noncomputable def An.bool? : An → Option Bool
  | .bool b => some b
  | _ => none
noncomputable def Q.val (C : CallT) : Q → Option An
  | .prim n vs => (Mini.prim n vs).map .slot
  | .bin op a b => (binop op a b).map .slot
  | .get c k => (getItemM c k).map .val
  | .put c k v => (putItem c k v).map .val
  | .lenset xs => (Mini.lenset xs).map .val
  | .own op c vs => (ownDo op c vs).map fun p => .pair p.1 p.2
  | .cmp op a b => (cmpop op a b).map .bool
  | .have b => some (.bool b)
  | .call a vs μ => (C a vs μ).map fun p => .call p.1 p.2
inductive Ans : Type → Type 1 where
  | ret {R : Type} (r : R) : Ans R
  | fail {R : Type} : Ans R
  | ask {R : Type} (q : Q) (k : An → Ans R) : Ans R
  | chk {R : Type} (b : Bool) (t : Ans R) : Ans R
  | lst {R : Type} (g : Comprehension) (t : Ans (List V × St)) (k : List V × St → Ans R) : Ans R
noncomputable def run (C : CallT) {R : Type} (t : Ans R) : Option R := Ans.rec (motive := fun {R} _ => Option R) (fun r => some r) none (fun q _ ih => (q.val C).bind ih) (fun b _ ih => gdo b ih) (fun _ _ _ iht ihk => iht.bind ihk) t
noncomputable def Ans.bind {S : Type} {R : Type} (t : Ans R) : (R → Ans S) → Ans S := Ans.rec (motive := fun {R} _ => (R → Ans S) → Ans S) (fun r f => f r) (fun _ => .fail) (fun q _ ih f => .ask q fun an => ih an f) (fun b _ ih f => .chk b (ih f)) (fun g t _ _ ihk f => .lst g t fun p => ihk p f) t
section
variable {R : Type}
noncomputable def opt {α : Type} (o : Option α) (f : α → Ans R) : Ans R := Option.rec (motive := fun _ => Ans R) .fail f o
noncomputable def gd (c : Bool) (t : Ans R) : Ans R := Bool.rec (motive := fun _ => Ans R) .fail t c
noncomputable def els {α : Type} (o : Option α) (f : α → Ans R) (g : Ans R) : Ans R := Option.rec (motive := fun _ => Ans R) g f o
noncomputable def br (c : Bool) (t f : Ans R) : Ans R := Bool.rec (motive := fun _ => Ans R) f t c
noncomputable def askS (q : Q) (k : Slot → Ans R) : Ans R := .ask q fun an => opt an.slot? k
noncomputable def askV (q : Q) (k : V → Ans R) : Ans R := .ask q fun an => opt an.val? k
noncomputable def askP (q : Q) (k : V × V → Ans R) : Ans R := .ask q fun an => opt an.pair? k
noncomputable def askB (q : Q) (k : Bool → Ans R) : Ans R := .ask q fun an => opt an.bool? k
noncomputable def askC (q : Q) (k : Slot × Mu → Ans R) : Ans R := .ask q fun an => opt an.call? k
end
end P
open P
structure Evs where
  e : {R : Type} → Expr → St → (Slot → St → Ans R) → Ans R
  b : {R : Type} → Expr → St → (Bool → St → Ans R) → Ans R
section
variable {R : Type}
noncomputable def Evs.v (ev : Evs) (x : Expr) (σ : St) (k : V → St → Ans R) : Ans R := ev.e x σ fun sl σ' => opt sl.v? fun v => k v σ'
noncomputable def Evs.l (ev : Evs) : List Expr → St → (List V → St → Ans R) → Ans R
  | [], σ, k => k [] σ
  | x :: r, σ, k => gd (!isStarred x) (ev.v x σ fun v σ₁ => Evs.l ev r σ₁ fun vs σ₂ => k (v :: vs) σ₂)
noncomputable def Evs.sl (ev : Evs) : List Expr → St → (List Slot → St → Ans R) → Ans R
  | [], σ, k => k [] σ
  | x :: r, σ, k => gd (!isStarred x) (ev.e x σ fun v σ₁ => Evs.sl ev r σ₁ fun vs σ₂ => k (v :: vs) σ₂)
noncomputable def chain1 (ev : Evs) (a : V) (op : CmpOp) (x : Expr) (σ : St) (k : Bool → St → Ans R) : Ans R :=
  gd (!behindInMarks op x) (ev.v x σ fun b σ' => opt (deref σ'.2 b) fun b' => askB (.cmp op a b') fun r => k r σ')
noncomputable def chain2 (ev : Evs) (op op2 : CmpOp) (l x y : Expr) (σ : St) (k : Bool → St → Ans R) : Ans R :=
  ev.v l σ fun a σ₁ => ev.v x σ₁ fun b σ₂ => askB (.cmp op a b) fun c => br c (chain1 ev b op2 y σ₂ k) (gd (!behindInMarks op2 y) (k false σ₂))
noncomputable def cmpGen (ev : Evs) (l : Expr) (ops : List CmpOp) (cs : List Expr) (σ : St) (k : Bool → St → Ans R) : Ans R := els (one? ops) (fun op => opt (one? cs) fun x => ev.v l σ fun a σ' => chain1 ev a op x σ' k) (opt (two? ops) fun p => opt (two? cs) fun q => chain2 ev p.1 p.2 l q.1 q.2 σ k)
noncomputable def ownName (sc : Scope) (σ : St) (o : Expr) : Option (Str × V) := (nameOf o).bind fun x => gdo (!isDebug x) (gdo (isLoc sc x) ((σ.1.lookup x).bind fun sl => sl.own?.map fun c => (x, c)))
noncomputable def ownList (sc : Scope) (σ : St) (l : Expr) (ops : List CmpOp) (cs : List Expr) : Option Bool := gdo (decide (ops = [.NotEq])) ((one? cs).bind fun x => (listOfE x).bind fun es => gdo es.isEmpty ((ownName sc σ l).bind fun p => p.2.list?.map fun xs => !xs.isEmpty))
noncomputable def cmpE (ev : Evs) (sc : Scope) (l : Expr) (ops : List CmpOp) (cs : List Expr) (σ : St) (k : Bool → St → Ans R) : Ans R := els (ownList sc σ l ops cs) (fun b => askB (.have b) fun b => k b σ) (cmpGen ev l ops cs σ k)
noncomputable def ends (op : BoolOp) (b : Bool) : Bool := match op with
  | .And => !b
  | .Or => b
noncomputable def boolE (ev : Evs) (op : BoolOp) : Expr → List Expr → St → (Bool → St → Ans R) → Ans R
  | x, [], σ, k => ev.b x σ k
  | x, y :: r, σ, k => ev.b x σ fun b σ' => br (ends op b) (k b σ') (boolE ev op y r σ' k)
noncomputable def boolV (ev : Evs) (op : BoolOp) : Expr → List Expr → St → (V → St → Ans R) → Ans R
  | x, [], σ, k => ev.v x σ k
  | x, y :: r, σ, k => ev.v x σ fun v σ' => opt v.bool? fun b => br (ends op b) (k v σ') (boolV ev op y r σ' k)
noncomputable def headTail {α : Type} : List α → Option (α × List α)
  | x :: r => some (x, r)
  | [] => none
noncomputable def testsE (ev : Evs) : List Expr → St → (Bool → St → Ans R) → Ans R
  | [], σ, k => k true σ
  | x :: r, σ, k => ev.b x σ fun b σ' => br b (testsE ev r σ' k) (k false σ')
noncomputable def eachL (sc : Scope) (ev : Evs) (t : Expr) (ifs : List Expr) (elt : Expr) : List V → St → Ans (List V × St)
  | [], σ => .ret ([], σ)
  | x :: xs, σ => opt (bindTo true sc t x σ) fun σ₁ => testsE ev ifs σ₁ fun b σ₂ => br b (ev.v elt σ₂ fun v σ₃ => (eachL sc ev t ifs elt xs σ₃).bind fun p => .ret (v :: p.1, p.2)) (eachL sc ev t ifs elt xs σ₂)
noncomputable def eachD (sc : Scope) (ev : Evs) (t : Expr) (kx vx : Expr) : List V → St → List (Int × V) → Ans (List (Int × V) × St)
  | [], σ, acc => .ret (acc, σ)
  | x :: xs, σ, acc => opt (bindTo true sc t x σ) fun σ₁ => ev.v kx σ₁ fun kv σ₂ => opt kv.int? fun k => ev.v vx σ₂ fun v σ₃ => eachD sc ev t kx vx xs σ₃ (put k v acc)
noncomputable def dictE (ev : Evs) : List (Option Expr) → List Expr → St → List (Str × V) → (List (Str × V) → St → Ans R) → Ans R
  | [], xs, σ, acc, k => gd xs.isEmpty (k acc σ)
  | o :: ks, xs, σ, acc, k => opt o fun kx => opt (headTail xs) fun p => ev.v kx σ fun kv σ₁ => opt kv.str? fun s => ev.v p.1 σ₁ fun v σ₂ => dictE ev ks p.2 σ₂ (put s v acc) k
noncomputable def callM (f : V) (vs : List V) (σ : St) (k : Slot → St → Ans R) : Ans R := match f with
  | .fn n => askS (.prim n vs) fun sl => k sl σ
  | .stat a => askC (.call a vs σ.2) fun p => k p.1 (σ.1, p.2)
  | _ => .fail
noncomputable def builtinMeth (m : Str) : V → Option Nat
  | .str _ => [(so "join", 15), (so "rfind", 16), (so "isdigit", 17)].lookup m
  | .dictS _ => [(so "get", 18)].lookup m
  | _ => none
noncomputable def methReg (ev : Evs) (r : Nat) (m : Str) (args : List Expr) (σ₁ : St) (k : Slot → St → Ans R) : Ans R :=
  opt (regVal σ₁.2 r) fun c₀ => opt (ownOp m c₀) fun op => ev.l args σ₁ fun vs σ₂ => opt (regVal σ₂.2 r) fun c => askP (.own op c vs) fun q => k (.val q.2) (σ₂.1, muSet σ₂.2 r q.1)
noncomputable def methInst (ev : Evs) (K : Addr) (fs : List (Str × V)) (m : Str) (args : List Expr) (σ₁ : St) (k : Slot → St → Ans R) : Ans R :=
  opt (methOf K m) fun f => gd (look m fs).isNone (ev.l args σ₁ fun vs σ₂ => callM (.stat f) (.inst K fs :: vs) σ₂ k)
noncomputable def methGen (ev : Evs) (o : Expr) (m : Str) (args : List Expr) (σ : St) (k : Slot → St → Ans R) : Ans R :=
  ev.v o σ fun ov σ₁ => match ov with
    | .reg r => methReg ev r m args σ₁ k
    | .inst K fs => methInst ev K fs m args σ₁ k
    | v => opt (builtinMeth m v) fun f => ev.l args σ₁ fun vs σ₂ => callM (.fn f) (v :: vs) σ₂ k
noncomputable def methOwn (ev : Evs) (x : Str) (op : OwnM) (args : List Expr) (σ : St) (k : Slot → St → Ans R) : Ans R :=
  ev.l args σ fun vs σ₁ => opt ((σ₁.1.lookup x).bind Slot.own?) fun c => askP (.own op c vs) fun q => k (.val q.2) (setv σ₁.1 x (.own q.1), σ₁.2)
noncomputable def methM (ev : Evs) (sc : Scope) (o : Expr) (m : Str) (args : List Expr) (σ : St) (k : Slot → St → Ans R) : Ans R := els (ownName sc σ o) (fun p => opt (ownOp m p.2) fun op => methOwn ev p.1 op args σ k) (methGen ev o m args σ k)
noncomputable def methLine (apos pos : Pos) (args : List Expr) : Bool := apos.endLine == pos.line && Nat.blt args.length 20
noncomputable def compOK (g : Comprehension) (scope : Scope) : Bool := decide (scope.kind = .function) && !isSetE g.iter && g.is_async == 0
noncomputable def compL (ev evIn : Evs) (sc scIn : Scope) (elt : Expr) (g : Comprehension) (scope : Scope) (σ : St) (k : List V → St → Ans R) : Ans R :=
  gd (compOK g scope) (ev.v g.iter σ fun v σ₁ => opt (overL σ₁.2 v) fun q => .chk (fits q.1.length) (opt (captured sc scope.names σ₁.1 scope.names) fun ρc =>
    .lst g (eachL scIn evIn g.target g.ifs elt q.1 (ρc, q.2.1)) fun p => .chk (fits (q.1.length + p.1.length)) (k p.1 (thaw σ₁.1 scope.names, q.2.2 p.2.2))))
noncomputable def compD (ev evIn : Evs) (sc scIn : Scope) (kx vx : Expr) (g : Comprehension) (scope : Scope) (σ : St) (k : List (Int × V) → St → Ans R) : Ans R :=
  gd (compOK g scope) (ev.v g.iter σ fun v σ₁ => opt (overL σ₁.2 v) fun q => gd (fits q.1.length) (opt (captured sc scope.names σ₁.1 scope.names) fun ρc =>
    (eachD scIn evIn g.target kx vx q.1 (ρc, q.2.1) []).bind fun p => k p.1 (thaw σ₁.1 scope.names, q.2.2 p.2.2)))
noncomputable def sliceAt (v kv : V) (f : Int → Option Int × Option Int) : Option V := v.str?.bind fun s => kv.int?.bind fun i => (sliceS s (f i).1 (f i).2).map .str
noncomputable def sliceFrom (ev : Evs) (v : V) (lo up : Option Expr) (σ : St) (k : Slot → St → Ans R) : Ans R := match lo with
  | some l => gd up.isNone (ev.v l σ fun kv σ₂ => opt (sliceAt v kv fun i => (some i, none)) fun r => k (.val r) σ₂)
  | none => opt up fun u => ev.v u σ fun kv σ₂ => opt (sliceAt v kv fun i => (none, some i)) fun r => k (.val r) σ₂
noncomputable def sliceE (ev : Evs) (v : V) (lo up st : Option Expr) (σ : St) (k : Slot → St → Ans R) : Ans R := match st with
  | none => sliceFrom ev v lo up σ k
  | some e => gd (minusOne e) (gd lo.isNone (gd up.isNone (opt v.list? fun xs => gd (fits xs.length) (k (.own (.list (backwards xs))) σ))))
noncomputable def nameCell (n : Str) (σ : St) (sl : Slot) (k : Slot → St → Ans R) : Ans R := match sl with
  | .val v => k (.val v) σ
  | .own v => k (.val v) (setv σ.1 n (.val v), σ.2)
  | _ => .fail
noncomputable def nameLoc (n : Str) (σ : St) (sl : Slot) (k : Slot → St → Ans R) : Ans R := match sl with
  | .self K fs => k (.val (.inst K fs)) (setv σ.1 n (.val (.inst K fs)), σ.2)
  | sl => nameCell n σ sl k
noncomputable def nameE (sc : Scope) (n : Str) (σ : St) (k : Slot → St → Ans R) : Ans R := gd (!isDebug n) (opt (sc.names.lookup n) fun kd => match kd with
  | .local => opt (σ.1.lookup n) fun sl => nameLoc n σ sl k
  | .cell => opt (σ.1.lookup n) fun sl => nameCell n σ sl k
  | .globalImplicit => opt (gl n) fun v => k (.val v) σ
  | _ => .fail)
noncomputable def plainO (e : Expr) : Bool := match callOf e with
  | some p => !((nameOf p.1).isSome && p.2.1.isEmpty && p.2.2)
  | none => true
noncomputable def attrE (ev : Evs) (o : Expr) (a : Str) (σ : St) (k : Slot → St → Ans R) : Ans R :=
  gd (plainO o) (ev.v o σ fun v σ' => opt v.inst? fun p => gd (isField p.1 a) (opt (look a p.2) fun v => gd (!v.fn?) (k (.val v) σ')))
noncomputable def subE (ev : Evs) (o i : Expr) (σ : St) (k : Slot → St → Ans R) : Ans R := els (sliceOf i) (fun q => ev.v o σ fun v σ₁ => sliceE ev v q.1 q.2.1 q.2.2 σ₁ k) (ev.v o σ fun v σ₁ => ev.v i σ₁ fun kv σ₂ => opt (deref σ₂.2 v) fun c => askV (.get c kv) fun r => k (.val r) σ₂)
noncomputable def call1 (sc : Scope) (e : Expr) : Option (Str × Expr) := (callOf e).bind fun p => gdo p.2.2 ((nameOf p.1).bind fun n => (one? p.2.1).bind fun x => gdo (isGlob sc n) (gdo (!isStarred x) (some (n, x))))
noncomputable def setArg (sc : Scope) (n : Str) (args : List Expr) : Option Expr := gdo (n == so "len") ((one? args).bind fun a => (call1 sc a).bind fun p => gdo (p.1 == so "set") (some p.2))
noncomputable def callNameE (ev : Evs) (sc : Scope) (n : Str) (args : List Expr) (σ : St) (k : Slot → St → Ans R) : Ans R :=
  gd (isGlob sc n) (opt (gl n) fun fv => els (setArg sc n args) (fun e => ev.v e σ fun v σ' => opt v.list? fun xs => askV (.lenset xs) fun r => k (.val r) σ') (ev.l args σ fun vs σ' => callM fv vs σ' k))
noncomputable def constV : Const → Option V
  | .none => some .none
  | .bool b => some (.bool b)
  | .int i => some (.int i)
  | .str s => some (.str s)
  | _ => none
noncomputable def unopV (op : UnaryOp) (v : V) : Option V := match op with
  | .Not => v.bool?.map fun b => .bool (!b)
  | .USub => v.int?.map fun i => .int (-i)
  | _ => none
noncomputable def callE (prev : Evs) (sc : Scope) (f : Expr) (args : List Expr) (pos : Pos) (σ : St) (k : Slot → St → Ans R) : Ans R := match evOf f with
  | .attr o m apos => gd (plainO o) (gd (methLine apos pos args) (methM prev sc o m args σ k))
  | .name n _ => callNameE prev sc n args σ k
  | _ => .fail
noncomputable def eBin (ev : Evs) (l : Expr) (op : Operator) (r : Expr) (σ : St) (k : Slot → St → Ans R) : Ans R := ev.v l σ fun a σ₁ => ev.v r σ₁ fun b σ₂ => askS (.bin op a b) fun sl => k sl σ₂
noncomputable def eUn (ev : Evs) (op : UnaryOp) (e : Expr) (σ : St) (k : Slot → St → Ans R) : Ans R := ev.v e σ fun v σ' => opt (unopV op v) fun r => k (.val r) σ'
noncomputable def eBool (ev : Evs) (op : BoolOp) (vs : List Expr) (σ : St) (k : Slot → St → Ans R) : Ans R := opt (headTail vs) fun p => boolV ev op p.1 p.2 σ fun v σ' => k (.val v) σ'
noncomputable def eCmp (ev : Evs) (sc : Scope) (l : Expr) (ops : List CmpOp) (cs : List Expr) (σ : St) (k : Slot → St → Ans R) : Ans R := cmpE ev sc l ops cs σ fun b σ' => k (.val (.bool b)) σ'
noncomputable def eIf (ev : Evs) (t a b : Expr) (σ : St) (k : Slot → St → Ans R) : Ans R := ev.b t σ fun c σ' => br c (ev.e a σ' k) (ev.e b σ' k)
noncomputable def eList (ev : Evs) (es : List Expr) (σ : St) (k : Slot → St → Ans R) : Ans R := ev.l es σ fun vs σ' => gd (fits vs.length) (k (.own (.list vs)) σ')
noncomputable def eTup (ev : Evs) (es : List Expr) (σ : St) (k : Slot → St → Ans R) : Ans R := ev.l es σ fun vs σ' => gd (fits vs.length) (k (.val (.tuple vs)) σ')
noncomputable def eDict (ev : Evs) (ks : List (Option Expr)) (vs : List Expr) (σ : St) (k : Slot → St → Ans R) : Ans R := gd (Nat.ble vs.length 15) (dictE ev ks vs σ [] fun kvs σ' => k (.own (.dictS kvs)) σ')
noncomputable def eComp (prev : Scope → Evs) (sc : Scope) (elt : Expr) (gs : List Comprehension) (scope : Scope) (σ : St) (k : Slot → St → Ans R) : Ans R := opt (one? gs) fun g => compL (prev sc) (prev (reScope scope sc)) sc (reScope scope sc) elt g scope σ fun vs σ' => k (.own (.list vs)) σ'
noncomputable def eDcomp (prev : Scope → Evs) (sc : Scope) (kx vx : Expr) (gs : List Comprehension) (scope : Scope) (σ : St) (k : Slot → St → Ans R) : Ans R := opt (one? gs) fun g => gd g.ifs.isEmpty (compD (prev sc) (prev (reScope scope sc)) sc (reScope scope sc) kx vx g scope σ fun kvs σ' => k (.own (.dictI kvs)) σ')
noncomputable def eCall (prev : Scope → Evs) (sc : Scope) (f : Expr) (args : List Expr) (kws : List Keyword) (pos : Pos) (σ : St) (k : Slot → St → Ans R) : Ans R := gd kws.isEmpty (callE (prev sc) sc f args pos σ k)
noncomputable def stepE (prev : Scope → Evs) (sc : Scope) (x : Expr) (σ : St) (k : Slot → St → Ans R) : Ans R := EV.rec (motive := fun _ => Ans R)
  (fun n _ => nameE sc n σ k) (fun es => eTup (prev sc) es σ k) (fun f args kws p => eCall prev sc f args kws p σ k) (fun es => eList (prev sc) es σ k) (fun _ _ _ => .fail) (fun o a _ => attrE (prev sc) o a σ k) (fun o i => subE (prev sc) o i σ k)
  (fun op e => eUn (prev sc) op e σ k) (fun c => opt (constV c) fun v => k (.val v) σ) .fail (fun l op r => eBin (prev sc) l op r σ k) (fun op vs => eBool (prev sc) op vs σ k) (fun l ops cs => eCmp (prev sc) sc l ops cs σ k) (fun t a b => eIf (prev sc) t a b σ k)
  (fun ks vs => eDict (prev sc) ks vs σ k) (fun elt gs s => eComp prev sc elt gs s σ k) (fun kx vx gs s => eDcomp prev sc kx vx gs s σ k) .fail (evOf x)
noncomputable def bVal (ev : Evs) (x : Expr) (σ : St) (k : Bool → St → Ans R) : Ans R := ev.v x σ fun v σ' => opt v.bool? fun b => k b σ'
noncomputable def bNot (ev : Evs) (op : UnaryOp) (e : Expr) (σ : St) (k : Bool → St → Ans R) : Ans R := gd (decide (op = .Not)) (ev.b e σ fun b σ' => k (!b) σ')
noncomputable def bBool (ev : Evs) (op : BoolOp) (vs : List Expr) (σ : St) (k : Bool → St → Ans R) : Ans R := opt (headTail vs) fun p => boolE ev op p.1 p.2 σ k
noncomputable def stepB (prev : Scope → Evs) (sc : Scope) (x : Expr) (σ : St) (k : Bool → St → Ans R) : Ans R := match evOf x with
  | .un op e => bNot (prev sc) op e σ k
  | .bool op vs => bBool (prev sc) op vs σ k
  | .cmp l ops cs => cmpE (prev sc) sc l ops cs σ k
  | .ife .. => .fail
  | _ => bVal (prev sc) x σ k
end
noncomputable def evs : Nat → Scope → Evs
  | 0, _ => ⟨fun _ _ _ => .fail, fun _ _ _ => .fail⟩
  | n + 1, sc => ⟨fun x σ k => stepE (evs n) sc x σ k, fun x σ k => stepB (evs n) sc x σ k⟩
noncomputable def tgtName (sc : Scope) (line : Nat) (e : Expr) : Option Str := match evOf e with
  | .name id pos => if sc.names.lookup id == some .local && pos.line == line then some id else none
  | _ => none
noncomputable def swapNames (sc : Scope) (ts es : List Expr) : Option (List Str) := match ts.length == 2 || ts.length == 3 with
  | false => none
  | true => match (ts.filterMap (tgtName sc ((ts.head?.map (·.pos.line)).getD 0))).length == ts.length && (ts.filterMap (tgtName sc ((ts.head?.map (·.pos.line)).getD 0))).eraseDups.length == (ts.filterMap (tgtName sc ((ts.head?.map (·.pos.line)).getD 0))).length && !(es.all (foldedForSure 8)) with
    | true => some (ts.filterMap (tgtName sc ((ts.head?.map (·.pos.line)).getD 0)))
    | false => none
section
variable {R : Type}
noncomputable def assignGen (ev : Evs) (sl : Slot) (o i : Expr) (σ : St) (k : St → Ans R) : Ans R :=
  opt sl.v? fun v => ev.v o σ fun ov σ₁ => opt ov.reg? fun r => ev.v i σ₁ fun kv σ₂ => opt (regVal σ₂.2 r) fun c => askV (.put c kv v) fun c' => k (σ₂.1, muSet σ₂.2 r c')
noncomputable def assignOwn (ev : Evs) (sl : Slot) (x : Str) (i : Expr) (σ : St) (k : St → Ans R) : Ans R :=
  opt sl.v? fun v => ev.v i σ fun kv σ₁ => opt ((σ₁.1.lookup x).bind Slot.own?) fun c => askV (.put c kv v) fun c' => k (setv σ₁.1 x (.own c'), σ₁.2)
noncomputable def fieldV (a : Str) (sl : Slot) (μ : Mu) : Option (V × Mu) := match sl with
  | .val v => some (v, μ)
  | .own v => (regOf a).bind fun r => gdo (muGet μ r).isNone (some (.reg r, muSet μ r v))
  | _ => none
noncomputable def selfName (sc : Scope) (σ : St) (o : Expr) : Option (Str × Addr × List (Str × V)) := (nameOf o).bind fun x => gdo (!isDebug x) (gdo (isLoc sc x) ((σ.1.lookup x).bind fun sl => sl.self?.map fun c => (x, c)))
noncomputable def assignField (sl : Slot) (x a : Str) (K : Addr) (fs : List (Str × V)) (σ : St) (k : St → Ans R) : Ans R :=
  gd (isField K a) (gd (look a fs).isNone (gd (Nat.ble fs.length 900) (opt (fieldV a sl σ.2) fun q => k (setv σ.1 x (.self K (fs ++ [(a, q.1)])), q.2))))
noncomputable def assignM (ev : Evs) (sc : Scope) (t : Expr) (sl : Slot) (σ : St) (k : St → Ans R) : Ans R := match evOf t with
  | .name x _ => opt (bindM sc x sl σ) k
  | .attr o a _ => opt (selfName sc σ o) fun p => assignField sl p.1 a p.2.1 p.2.2 σ k
  | .sub o i => els (ownName sc σ o) (fun p => assignOwn ev sl p.1 i σ k) (assignGen ev sl o i σ k)
  | _ => .fail
noncomputable def bindAllM (sc : Scope) : List Str → List Slot → St → (St → Ans R) → Ans R
  | [], sls, σ, k => gd sls.isEmpty (k σ)
  | x :: xs, sls, σ, k => opt (headTail sls) fun p => opt (bindM sc x p.1 σ) fun σ' => bindAllM sc xs p.2 σ' k
noncomputable def assignEachM (ev : Evs) (sc : Scope) : List Expr → List Slot → St → (St → Ans R) → Ans R
  | [], sls, σ, k => gd sls.isEmpty (k σ)
  | t :: ts, sls, σ, k => opt (headTail sls) fun p => assignM ev sc t p.1 σ fun σ' => assignEachM ev sc ts p.2 σ' k
end
inductive SV where
  | ret (e : Option Expr) | expr (e : Expr) | asg (ts : List Expr) (value : Expr) | ite (t : Expr) (a b : List Stmt) | for_ (t it : Expr) (body els : List Stmt) | while_ (t : Expr) (body els : List Stmt) | other
noncomputable def svOf : Stmt → SV
  | .Return e _ => .ret e
  | .Expr e _ => .expr e
  | .Assign ts value _ => .asg ts value
  | .If t a b _ => .ite t a b
  | .For t it body els _ => .for_ t it body els
  | .While t body els _ => .while_ t body els
  | _ => .other
noncomputable def flow {R : Type} (p : Fl × St) (kn : St → Ans R) (kr : Slot → St → Ans R) : Ans R := match p.1 with
  | .next => kn p.2
  | .ret sl => kr sl p.2
noncomputable def forM (sc : Scope) (t : Expr) (body : St → Ans (Fl × St)) : List V → St → Ans (Fl × St)
  | [], σ => .ret (.next, σ)
  | x :: xs, σ => opt (bindTo false sc t x σ) fun σ₁ => (body σ₁).bind fun p => flow p (forM sc t body xs) fun sl σ' => .ret (.ret sl, σ')
noncomputable def whileM (ev : Evs) (test : Expr) (body : St → Ans (Fl × St)) : Nat → St → Ans (Fl × St)
  | 0, _ => .fail
  | n + 1, σ => ev.b test σ fun b σ₁ => br b ((body σ₁).bind fun p => flow p (whileM ev test body n) fun sl σ' => .ret (.ret sl, σ')) (.ret (.next, σ₁))
noncomputable def enumFrom : Nat → List V → List V
  | _, [] => []
  | i, x :: r => .tuple [.int i, x] :: enumFrom (i + 1) r
section
variable {R : Type}
noncomputable def walkOf (it : Expr) : Option (Str × Expr) := (callOf it).bind fun p => gdo p.2.2 ((nameOf p.1).bind fun n => (one? p.2.1).bind fun x => gdo (n == so "enumerate" || n == so "reversed") (some (n, x)))
noncomputable def forGen (ev : Evs) (it : Expr) (σ : St) (k : List V → St → Ans R) : Ans R := ev.v it σ fun v σ' => opt (overM v) fun xs => k xs σ'
noncomputable def forOver (ev : Evs) (sc : Scope) (t it : Expr) (σ : St) (k : List V → St → Ans R) : Ans R := els (walkOf it) (fun p => gd (isGlob sc p.1) (gd (!isStarred p.2) (ev.v p.2 σ fun v σ' => opt v.list? fun xs => gd (fits xs.length) (br (p.1 == so "enumerate") (gd (tupOf t).isSome (k (enumFrom 0 xs) σ')) (k xs.reverse σ'))))) (forGen ev it σ k)
end
section
variable (wf : Nat)
structure Blk where
  run : {R : Type} → List Stmt → St → (St → Ans R) → (Slot → St → Ans R) → Ans R
variable {R : Type}
noncomputable def Blk.fl (b : Blk) (body : List Stmt) (σ : St) : Ans (Fl × St) := b.run body σ (fun σ' => .ret (.next, σ')) (fun sl σ' => .ret (.ret sl, σ'))
noncomputable def assignTup (ev : Evs) (sc : Scope) (ts es : List Expr) (σ : St) (kn : St → Ans R) : Ans R :=
  gd (ts.length == es.length) (gd (Nat.ble es.length 100) (gd (!(es.all (constantsAlone 8))) (ev.sl es σ fun sls σ₁ => els (swapNames sc ts es) (fun names => bindAllM sc names.reverse sls.reverse σ₁ kn) (assignEachM ev sc ts sls σ₁ kn))))
noncomputable def assignS (ev : Evs) (sc : Scope) (t value : Expr) (σ : St) (kn : St → Ans R) : Ans R := els (tupOf t) (fun ts => opt (tupOf value) fun es => assignTup ev sc ts es σ kn) (ev.e value σ fun sl σ₁ => assignM ev sc t sl σ₁ kn)
noncomputable def stepS (ev : Evs) (sc : Scope) (blk : Blk) (st : Stmt) (σ : St) (kn : St → Ans R) (kr : Slot → St → Ans R) : Ans R := match svOf st with
  | .ret ve => opt ve fun e => ev.e e σ kr
  | .expr e => gd (callOf e).isSome (ev.e e σ fun sl σ' => opt sl.val? fun v => gd v.none? (kn σ'))
  | .asg ts value => opt (one? ts) fun t => assignS ev sc t value σ kn
  | .ite t a b => ev.b t σ fun c σ' => br c (blk.run a σ' kn kr) (blk.run b σ' kn kr)
  | .for_ t it body els => gd els.isEmpty (forOver ev sc t it σ fun xs σ' => (forM sc t (blk.fl body) xs σ').bind fun p => flow p kn kr)
  | .while_ t body els => gd els.isEmpty ((whileM ev t (blk.fl body) wf σ).bind fun p => flow p kn kr)
  | _ => .fail
noncomputable def blkM (ev : Evs) (sc : Scope) (blk : Blk) : List Stmt → St → (St → Ans R) → (Slot → St → Ans R) → Ans R
  | [], σ, kn, _ => kn σ
  | st :: r, σ, kn, kr => stepS wf ev sc blk st σ (fun σ' => blkM ev sc blk r σ' kn kr) kr
noncomputable def blk (sc : Scope) : Nat → Blk
  | 0 => ⟨fun _ _ _ _ => .fail⟩
  | n + 1 => ⟨fun b σ kn kr => blkM wf (evs 40 sc) sc (blk sc n) b σ kn kr⟩
end
end Mini
namespace Mini
noncomputable abbrev T (B : Bs) (A : Around) {α : Type} (t : Sem α) (Q : α → Shared → Prop) (s : Shared) : Prop := wpAny (model PW B.w) A t Q (fun _ _ => False) s
theorem T.mono {B : Bs} {A : Around} {α : Type} {t : Sem α} {Q Q' : α → Shared → Prop} {s : Shared} (h : T B A t Q s) (k : ∀ a s', Q a s' → Q' a s') : T B A t Q' s := wpAny_mono h k fun _ _ e => e
theorem T.bind {B : Bs} {A : Around} {α β : Type} {t : Sem α} {f : α → Sem β} {Q : β → Shared → Prop} {s : Shared} (h : T B A t (fun a s' => T B A (f a) Q s') s) : T B A (t >>= f) Q s := wpAny_bind h
noncomputable def VarOK (w : World) (R : RM) (L : Addr) (x : Str) (sl : Slot) (ov : Option Value) : Prop := match sl with
  | .unset => True
  | .val v => ∃ u, ov = some u ∧ RepV w R v u
  | .own v => ∃ a, ov = some (.ref a) ∧ R a = some (.var L x v)
  | .self C fs => ∃ a d, ov = some (.ref a) ∧ R a = some (.frozen (instObj C d)) ∧ R d = some (.var L x (.dictS fs)) ∧ (a == sysModules) = false
noncomputable def VarAt (R : RM) (env : Env) (x : Str) (ov : Option Value) : Prop :=
  (env.kindOf x = some .local ∧ ∃ m, R env.locals = some (.ns m) ∧ ov = m x) ∨ (env.kindOf x = some .cell ∧ ∃ c L, env.cells.lookup x = some c ∧ R c = some (.cell L x ov))
structure Fm (B : Bs) (env : Env) (own : Bool) (R : RM) (ρ : Rho) : Prop where
  kind : env.scope.kind = .function
  glob : env.globals = mainGlobals
  blt : env.builtins = builtinsNs
  ns : ∃ m, R env.locals = some (.ns m)
  cell : ∀ x, env.kindOf x = some .cell → ∃ c L w, env.cells.lookup x = some c ∧ R c = some (.cell L x w) ∧ (own = true → L = env.locals)
  vars : ∀ x sl, ρ.lookup x = some sl → ∃ ov, VarAt R env x ov ∧ VarOK B.w R env.locals x sl ov
structure RegsOK (R : RM) (μ : Mu) : Prop where
  len : μ.length = 5
  here : ∀ r v, muGet μ r = some v → ∃ a sp, R a = some sp ∧ (sp = .reg r v ∨ (v = .fn 99 ∧ ∃ o, sp = .held r o))
  gone : ∀ r, muGet μ r = none → ∀ a, ¬ RegAt R a r
structure Inv (B : Bs) (env : Env) (own : Bool) (σ : St) (R : RM) (s : Shared) : Prop where
  hs : HS B R s
  fm : Fm B env own R σ.1
  rg : RegsOK R σ.2
noncomputable def ResOK (w : World) (R R' : RM) (sl : Slot) (u : Value) : Prop := match sl with
  | .val v => RepV w R' v u
  | .own v => ∃ a, u = .ref a ∧ R' a = some (.temp v) ∧ R a = none
  | _ => False
theorem lookup_setv (x y : Str) (sl : Slot) : ∀ ρ : Rho, (setv ρ x sl).lookup y = if y = x then some sl else ρ.lookup y
  | [] => by
    show List.lookup y [(x, sl)] = _
    rw [List.lookup_cons, List.lookup_nil]
    by_cases h : y = x
    · rw [if_pos h, h]; simp
    · rw [if_neg h, beq_eq_false_iff_ne.mpr h]
  | (z, t) :: r => by
    unfold setv
    have ih := lookup_setv x y sl r
    cases hz : z == x with
    | true =>
      dsimp only
      have hz := beq_iff_eq.mp hz
      subst hz
      rw [List.lookup_cons, List.lookup_cons]
      by_cases h : y = z
      · rw [if_pos h, h]; simp
      · rw [if_neg h, beq_eq_false_iff_ne.mpr h]
    | false =>
      dsimp only
      have hz := beq_eq_false_iff_ne.mp hz
      rw [List.lookup_cons, List.lookup_cons, ih]
      by_cases h : y = z
      · subst h; rw [beq_self_eq_true]; simp only [if_neg hz]
      · rw [beq_eq_false_iff_ne.mpr h]
theorem muSet_length : ∀ (μ : Mu) (r : Nat) (v : V), (muSet μ r v).length = μ.length
  | [], _, _ => rfl
  | _ :: _, 0, _ => rfl
  | _ :: q, n + 1, v => congrArg (· + 1) (muSet_length q n v)
theorem muGet_set : ∀ (μ : Mu) (r q : Nat) (v : V), r < μ.length → muGet (muSet μ r v) q = if q = r then some v else muGet μ q
  | [], _, _, _, h => absurd h (Nat.not_lt_zero _)
  | _ :: _, 0, 0, v, _ => rfl
  | _ :: _, 0, q + 1, v, _ => by show muGet _ q = _; rw [if_neg (by omega)]; rfl
  | u :: m, r + 1, 0, v, _ => by show u = _; rw [if_neg (by omega)]; rfl
  | _ :: m, r + 1, q + 1, v, h => by
    show muGet (muSet m r v) q = _
    rw [muGet_set m r q v (by simpa using h)]
    by_cases e : q = r
    · rw [if_pos e, if_pos (by omega)]
    · rw [if_neg e, if_neg (by omega)]; rfl
section
variable {w : World} {R R' : RM} {L : Addr} {x : Str} {sl : Slot} {ov : Option Value} {env : Env}
theorem VarOK.mono (h : VarOK w R L x sl ov) (le : Le R R') (k : ∀ a v, R a = some (.var L x v) → R' a = some (.var L x v)) : VarOK w R' L x sl ov := by
  cases sl with
  | unset => trivial
  | val v => obtain ⟨u, e, y⟩ := h; exact ⟨u, e, y.mono le⟩
  | own v => obtain ⟨a, e, y⟩ := h; exact ⟨a, e, k a _ y⟩
  | self C fs => obtain ⟨a, d, e, y, z, q⟩ := h; exact ⟨a, d, e, le.1 _ _ y, k d _ z, q⟩
theorem VarAt.mono (h : VarAt R env x ov) (k : ∀ m, R env.locals = some (.ns m) → R' env.locals = some (.ns m)) (k' : ∀ c L ov, R c = some (.cell L x ov) → R' c = some (.cell L x ov)) : VarAt R' env x ov := by
  rcases h with ⟨a, m, b, c⟩ | ⟨a, c, L, b, d⟩
  · exact .inl ⟨a, m, k m b, c⟩
  · exact .inr ⟨a, c, L, b, k' c L ov d⟩
end
section
variable {B : Bs} {env : Env} {own : Bool} {R R' : RM} {ρ : Rho} {s : Shared}
theorem Fm.ext (F : Fm B env own R ρ) (x : Ext none R R') : Fm B env own R' ρ := by
  refine ⟨F.kind, F.glob, F.blt, F.ns.imp fun m h => x.kept h (by intro _ _ e; cases e) rfl, fun y hy => ?_, fun y sl hy => ?_⟩
  · obtain ⟨c, L, w, a, b, d⟩ := F.cell y hy
    exact ⟨c, L, w, a, x.kept b (by intro _ _ e; cases e) rfl, d⟩
  · obtain ⟨ov, a, b⟩ := F.vars y sl hy
    exact ⟨ov, a.mono (fun m h => x.kept h (by intro _ _ e; cases e) rfl) (fun c L ov h => x.kept h (by intro _ _ e; cases e) rfl), b.mono x.le fun a v h => x.kept h (by intro _ _ e; cases e) rfl⟩
noncomputable def Spec.inFrame : Spec → Prop
  | .ns _ | .cell .. | .var .. => True
  | _ => False
theorem Fm.le (F : Fm B env own R ρ) (le : Le R R') (k : ∀ b q, R b = some q → q.inFrame → R' b = some q) : Fm B env own R' ρ := by
  refine ⟨F.kind, F.glob, F.blt, F.ns.imp fun m h => k _ _ h trivial, fun y hy => ?_, fun y sl hy => ?_⟩
  · obtain ⟨c, L, w, p, q, d⟩ := F.cell y hy
    exact ⟨c, L, w, p, k _ _ q trivial, d⟩
  · obtain ⟨ov, p, q⟩ := F.vars y sl hy
    exact ⟨ov, p.mono (fun m h => k _ _ h trivial) (fun c L ov h => k _ _ h trivial), q.mono le fun b z h => k _ _ h trivial⟩
theorem RegsOK.ext_same {μ : Mu} (x : RegsOK R μ) (h : ∀ a r sp, sp.regNo = some r → (R a = some sp ↔ R' a = some sp)) : RegsOK R' μ :=
  ⟨x.len, fun r v e => by
    obtain ⟨a, sp, q, q'⟩ := x.here r v e
    refine ⟨a, sp, (h a r sp ?_).mp q, q'⟩
    rcases q' with rfl | ⟨_, o, rfl⟩ <;> rfl, fun r e a ⟨sp, q, q'⟩ => x.gone r e a ⟨sp, (h a r sp q').mpr q, q'⟩⟩
noncomputable def Spec.thing? : Spec → Option V
  | .temp v => some v
  | .var _ _ v => some v
  | _ => none
theorem thing_tag {sp : Spec} {v : V} (h : sp.thing? = some v) : Nat.beq sp.tag 0 = false ∧ Nat.beq sp.tag 4 = false ∧ sp.regNo = none := by
  cases sp with
  | temp v => exact ⟨rfl, rfl, rfl⟩
  | var L x v => exact ⟨rfl, rfl, rfl⟩
  | _ => exact ns h
theorem thing_holds {w : World} {h : Heap} {a : Addr} {sp : Spec} {v : V} (e : sp.thing? = some v) (x : Holds w R h a sp) : ∃ o, h.get? a = some o ∧ RepO w R v o ∧ (a == sysModules) = false := by
  cases sp with
  | temp v => cases e; exact x
  | var L y v => cases e; exact x
  | _ => exact ns e
inductive Froze (B : Bs) (R : RM) (s : Shared) (a : Addr) (v : V) : Prop
  | mk (o : Obj) (ho : s.heap.get? a = some o) (hv : RepO B.w R v o) (H : HS B (upd R a (.frozen o)) s) (le : Le R (upd R a (.frozen o))) (hv2 : RepO B.w (upd R a (.frozen o)) v o) (hz : (a == sysModules) = false) : Froze B R s a v
theorem HS.freeze (x : HS B R s) {a : Addr} {sp : Spec} {v : V} (ha : R a = some sp) (hsp : sp.thing? = some v) : Froze B R s a v := by
  obtain ⟨o, ho, hv, hz⟩ := thing_holds hsp (x.holds a sp ha)
  obtain ⟨h0, h4, hr⟩ := thing_tag hsp
  have C := x.swap (tk := s.toks) (sp' := .frozen o) ha h0 h4 (fun _ _ _ y => y) ho (.inl rfl) hr rfl
  exact ⟨o, ho, hv, C.1, C.2, hv.mono C.2, hz⟩
theorem upd_reg_iff {a : Addr} {sp sp' : Spec} (ha : R a = some sp) (h1 : sp.regNo = none) (h2 : sp'.regNo = none) (b : Addr) (r : Nat) (q : Spec) (hq : q.regNo = some r) : R b = some q ↔ upd R a sp' b = some q := by
  by_cases hb : b = a
  · rw [hb, upd_same, ha]
    exact ⟨fun e => by rw [← Option.some.inj e, h1] at hq; exact ns hq, fun e => by rw [← Option.some.inj e, h2] at hq; exact ns hq⟩
  · rw [upd_ne _ _ hb]
theorem ext_upd_own {a L : Addr} {x : Str} {v : V} {sp' : Spec} (ha : R a = some (.var L x v)) : Ext (some L) R (upd R a sp') := ⟨fun b q e => by
  by_cases hb : b = a
  · exact ⟨sp', by rw [hb, upd_same]⟩
  · exact ⟨q, by rw [upd_ne _ _ hb]; exact e⟩, fun b q e => by
  by_cases hb : b = a
  · rw [hb, ha] at e
    rw [← Option.some.inj e]
    exact fun n => (n.resolve_left (fun e => nomatch e) rfl).elim
  · exact .of (by rw [upd_ne _ _ hb]; exact e)⟩
theorem VarAt.keep {a : Addr} {sp sp' : Spec} {x : Str} {ov : Option Value} (ha : R a = some sp) (h4 : Nat.beq sp.tag 4 = false) (h5 : Nat.beq sp.tag 5 = false) (h : VarAt R env x ov) : VarAt (upd R a sp') env x ov := h.mono (fun m h => upd_keep ha h h4) fun c L ov h => upd_keep ha h h5
theorem VarAt.back {a : Addr} {sp' : Spec} {x : Str} {ov : Option Value} (h4 : Nat.beq sp'.tag 4 = false) (h5 : Nat.beq sp'.tag 5 = false) (h : VarAt (upd R a sp') env x ov) : VarAt R env x ov := h.mono (fun m h => upd_back h h4) fun c L ov h => upd_back h h5
theorem VarAt.det {x : Str} {o o' : Option Value} (h : VarAt R env x o) (h' : VarAt R env x o') : o = o' := by
  rcases h with ⟨k, m, e1, e2⟩ | ⟨k, q, L, e1, e2⟩ <;> rcases h' with ⟨k', m', f1, f2⟩ | ⟨k', q', L', f1, f2⟩
  · have e := e1.symm.trans f1
    injection e with e; injection e with e
    rw [e2, f2, e]
  · exact nomatch k.symm.trans k'
  · exact nomatch k.symm.trans k'
  · have e := e1.symm.trans f1
    injection e with e
    rw [← e] at f2
    have e := e2.symm.trans f2
    injection e with e; injection e
theorem Fm.own_upd (F : Fm B env own R ρ) {a : Addr} {x : Str} {v : V} {sp' : Spec} {sl' : Slot} (ha : R a = some (.var env.locals x v)) (le : Le R (upd R a sp'))
    (h : ∀ ov, VarAt (upd R a sp') env x ov → (∀ sl, ρ.lookup x = some sl → VarOK B.w R env.locals x sl ov) → VarOK B.w (upd R a sp') env.locals x sl' ov) {sl : Slot} (hx : ρ.lookup x = some sl) :
    Fm B env own (upd R a sp') (setv ρ x sl') := by
  refine ⟨F.kind, F.glob, F.blt, F.ns.imp fun m e => upd_keep ha e rfl, fun y hy => ?_, fun y sl2 hy => ?_⟩
  · obtain ⟨c, L, w, a', b, d⟩ := F.cell y hy
    exact ⟨c, L, w, a', upd_keep ha b rfl, d⟩
  · rw [lookup_setv] at hy
    by_cases e : y = x
    · rw [if_pos e] at hy
      obtain ⟨ov, p, q⟩ := F.vars x sl hx
      have p' := p.keep (sp' := sp') ha rfl rfl
      rw [e, ← Option.some.inj hy]
      exact ⟨ov, p', h ov p' fun sl2 h2 => by rw [hx] at h2; rw [← Option.some.inj h2]; exact q⟩
    · rw [if_neg e] at hy
      obtain ⟨ov, p, q⟩ := F.vars y sl2 hy
      exact ⟨ov, p.keep ha rfl rfl, q.mono le fun b u hb => (upd_ne R sp' fun q => e (by rw [q, ha] at hb; injection hb with hb; injection hb with _ hb; exact hb.symm)).trans hb⟩
end
inductive Post {α : Type} (B : Bs) (env : Env) (own : Bool) (σ : St) (L : Option Addr) (Rm : RM) (P : RM → RM → α → Prop) (u : α) (s : Shared) : Prop
  | mk (R' : RM) (i : Inv B env own σ R' s) (x : Ext L Rm R') (q : P Rm R' u) : Post B env own σ L Rm P u s
noncomputable def PRes (w : World) (sl : Slot) (Rm R' : RM) (u : Value) : Prop := ResOK w Rm R' sl u
noncomputable def PVal (w : World) (v : V) (_ R' : RM) (u : Value) : Prop := RepV w R' v u
noncomputable def PList (w : World) (vs : List V) (_ R' : RM) (us : List Value) : Prop := RepL w R' vs us
noncomputable def PEq {α : Type} (b : α) (_ _ : RM) (u : α) : Prop := u = b
noncomputable def Runs (B : Bs) (A : Around) (sc : Scope) (σ σ' : St) {α : Type} (t : Env → Sem α) (P : RM → RM → α → Prop) : Prop :=
  ∀ env own Rm s, env.scope = sc → Inv B env own σ Rm s → T B A (t env) (Post B env own σ' (some env.locals) Rm P) s
section
variable {B : Bs} {A : Around} {sc : Scope} {σ σ' : St} {α : Type} {t : Env → Sem α} {P : RM → RM → α → Prop} {env : Env} {own : Bool} {Rm : RM} {s : Shared} {Q : α → Shared → Prop}
theorem Post.go {L : Option Addr} {t : Sem α} (h : T B A t (Post B env own σ' L Rm P) s) (k : ∀ R₁ u s₁, Inv B env own σ' R₁ s₁ → Ext L Rm R₁ → P Rm R₁ u → Q u s₁) : T B A t Q s := h.mono fun u s₁ ⟨R₁, i, x, q⟩ => k R₁ u s₁ i x q
theorem Runs.go (h : Runs B A sc σ σ' t P) (he : env.scope = sc) (I : Inv B env own σ Rm s) (k : ∀ R₁ u s₁, Inv B env own σ' R₁ s₁ → Ext (some env.locals) Rm R₁ → P Rm R₁ u → Q u s₁) : T B A (t env) Q s := Post.go (h env own Rm s he I) k
end
theorem Post.val {B : Bs} {env : Env} {own : Bool} {σ : St} {L : Option Addr} {Rm R₁ : RM} {v : V} {u : Value} {s : Shared} (x : Ext L Rm R₁) (h : Post B env own σ L R₁ (PVal B.w v) u s) : Post B env own σ L Rm (PRes B.w (.val v)) u s := let ⟨R', i, x', q⟩ := h; ⟨R', i, x.trans x', q⟩
noncomputable def EQ (B : Bs) (A : Around) (sc : Scope) (x : Expr) (σ : St) (sl : Slot) (σ' : St) : Prop := Runs B A sc σ σ' (eval x) (PRes B.w sl)
noncomputable def VQ (B : Bs) (A : Around) (sc : Scope) (x : Expr) (σ : St) (v : V) (σ' : St) : Prop := Runs B A sc σ σ' (eval x) (PVal B.w v)
noncomputable def testOf (x : Expr) (env : Env) : Sem Bool := PySem.isTrue x env (eval x env)
noncomputable def BQ (B : Bs) (A : Around) (sc : Scope) (x : Expr) (σ : St) (b : Bool) (σ' : St) : Prop := Runs B A sc σ σ' (testOf x) (PEq b)
noncomputable def Gv {α : Type} (P : α → Prop) (o : Option α) : Prop := ∀ a, o = some a → P a
noncomputable def Go (C : CallT) {R : Type} (Z : R → Prop) (t : P.Ans R) : Prop := Gv Z (P.run C t)
section
variable {α β : Type} {Z : α → Prop}
theorem bnd {α β : Type} {o : Option α} {f : α → Option β} {r : β} (h : o.bind f = some r) : ∃ x, o = some x ∧ f x = some r := Option.bind_eq_some_iff.mp h
theorem gdo_some {α : Type} {c : Bool} {o : Option α} {r : α} (h : gdo c o = some r) : c = true ∧ o = some r := by
  cases c with
  | false => exact ns h
  | true => exact ⟨rfl, h⟩
theorem Gv.none : Gv Z none := fun _ h => ns h
theorem Gv.some {a : α} (h : Z a) : Gv Z (some a) := fun _ e => Option.some.inj e ▸ h
theorem Gv.bind {o : Option β} {f : β → Option α} (h : ∀ x, o = .some x → Gv Z (f x)) : Gv Z (o.bind f) := by
  cases o with
  | none => exact Gv.none
  | some x => exact h x rfl
theorem Gv.map {o : Option β} {f : β → α} (h : ∀ x, o = .some x → Z (f x)) : Gv Z (o.map f) := by
  cases o with
  | none => exact Gv.none
  | some x => exact Gv.some (h x rfl)
theorem Gv.mapG {o : Option β} {f : β → α} (h : Gv (fun x => Z (f x)) o) : Gv Z (o.map f) := .map h
theorem Gv.bindG {Y : β → Prop} {o : Option β} {f : β → Option α} (h : Gv Y o) (k : ∀ x, Y x → Gv Z (f x)) : Gv Z (o.bind f) := .bind fun x e => k x (h x e)
theorem Gv.gdo {c : Bool} {o : Option α} (h : c = true → Gv Z o) : Gv Z (gdo c o) := by
  cases c with
  | false => exact Gv.none
  | true => exact h rfl
theorem Gv.els {o : Option β} {f : β → Option α} {g : Option α} (h : ∀ x, o = .some x → Gv P (f x)) (h' : o = .none → Gv P g) : Gv P (elo o f g) := by
  cases o with
  | none => exact h' rfl
  | some x => exact h x rfl
theorem Gv.br {c : Bool} {f g : Option α} (h : c = true → Gv P f) (h' : c = false → Gv P g) : Gv P (bro c f g) := by
  cases c with
  | false => exact h' rfl
  | true => exact h rfl
end
section
open P
variable {C : CallT} {R : Type} {Z : R → Prop}
theorem Go.fail : Go C Z .fail := Gv.none
theorem Go.ret {r : R} (h : Z r) : Go C Z (.ret r) := Gv.some h
theorem Go.opt {α : Type} {o : Option α} {f : α → Ans R} (h : ∀ x, o = some x → Go C Z (f x)) : Go C Z (opt o f) := by
  cases o with
  | none => exact Go.fail
  | some x => exact h x rfl
theorem Go.els {α : Type} {o : Option α} {f : α → Ans R} {g : Ans R} (h : ∀ x, o = some x → Go C Z (f x)) (h' : o = none → Go C Z g) : Go C Z (els o f g) := by
  cases o with
  | none => exact h' rfl
  | some x => exact h x rfl
theorem Go.br {c : Bool} {t f : Ans R} (h : c = true → Go C Z t) (h' : c = false → Go C Z f) : Go C Z (br c t f) := by
  cases c with
  | false => exact h' rfl
  | true => exact h rfl
theorem Go.gd {c : Bool} {t : Ans R} (h : c = true → Go C Z t) : Go C Z (gd c t) := by
  cases c with
  | false => exact Go.fail
  | true => exact h rfl
theorem Go.gdn {c : Bool} {t : Ans R} (h : c = false → Go C Z t) : Go C Z (P.gd (!c) t) := by
  cases c with
  | true => exact Go.fail
  | false => exact h rfl
theorem Go.chk {c : Bool} {t : Ans R} (h : c = true → Go C Z t) : Go C Z (.chk c t) := Gv.gdo h
theorem run_bind {C : CallT} {S : Type} : ∀ {R : Type} (t : Ans R) (f : R → Ans S), P.run C (t.bind f) = (P.run C t).bind fun r => P.run C (f r)
  | _, .ret _, _ => rfl
  | _, .fail, _ => rfl
  | _, .ask q k, f => by
    show (q.val C).bind (fun an => P.run C ((k an).bind f)) = ((q.val C).bind fun an => P.run C (k an)).bind _
    cases q.val C with
    | none => rfl
    | some an => exact run_bind (k an) f
  | _, .chk c t, f => by
    cases c with
    | false => rfl
    | true => exact run_bind t f
  | _, .lst _ t k, f => by
    show (P.run C t).bind (fun p => P.run C ((k p).bind f)) = ((P.run C t).bind fun p => P.run C (k p)).bind _
    cases P.run C t with
    | none => rfl
    | some p => exact run_bind (k p) f
theorem Go.bind {S : Type} {t : Ans S} {f : S → Ans R} (h : ∀ x, P.run C t = some x → Go C Z (f x)) : Go C Z (t.bind f) := by
  unfold Go
  rw [run_bind]
  exact Gv.bind h
theorem Go.lst {g : Comprehension} {t : Ans (List V × St)} {k : List V × St → Ans R} (h : ∀ x, P.run C t = some x → Go C Z (k x)) : Go C Z (.lst g t k) := Gv.bind h
theorem go_ask {q : Q} {α : Type} {o : Option α} {g : α → An} {p : An → Option α} {k : α → Ans R} (e : q.val C = o.map g) (i : ∀ x, p (g x) = some x) (h : ∀ x, o = some x → Go C Z (k x)) : Go C Z (.ask q fun an => P.opt (p an) k) := by
  show Gv Z ((q.val C).bind _)
  rw [e]
  cases o with
  | none => exact Gv.none
  | some x =>
    show Go C Z (P.opt (p (g x)) k)
    rw [i]
    exact h x rfl
theorem Go.prim {n : Nat} {vs : List V} {k : Slot → Ans R} (h : ∀ x, Mini.prim n vs = some x → Go C Z (k x)) : Go C Z (askS (.prim n vs) k) := go_ask (g := .slot) rfl (fun _ => rfl) h
theorem Go.bin {op : Operator} {a b : V} {k : Slot → Ans R} (h : ∀ x, binop op a b = some x → Go C Z (k x)) : Go C Z (askS (.bin op a b) k) := go_ask (g := .slot) rfl (fun _ => rfl) h
theorem Go.get {c i : V} {k : V → Ans R} (h : ∀ x, getItemM c i = some x → Go C Z (k x)) : Go C Z (askV (.get c i) k) := go_ask (g := .val) rfl (fun _ => rfl) h
theorem Go.put {c i v : V} {k : V → Ans R} (h : ∀ x, putItem c i v = some x → Go C Z (k x)) : Go C Z (askV (.put c i v) k) := go_ask (g := .val) rfl (fun _ => rfl) h
theorem Go.lenset {xs : List V} {k : V → Ans R} (h : ∀ x, Mini.lenset xs = some x → Go C Z (k x)) : Go C Z (askV (.lenset xs) k) := go_ask (g := .val) rfl (fun _ => rfl) h
theorem Go.own {op : OwnM} {c : V} {vs : List V} {k : V × V → Ans R} (h : ∀ x, ownDo op c vs = some x → Go C Z (k x)) : Go C Z (askP (.own op c vs) k) := go_ask (g := (fun p => .pair p.1 p.2)) rfl (fun _ => rfl) h
theorem Go.cmp {op : CmpOp} {a b : V} {k : Bool → Ans R} (h : ∀ x, cmpop op a b = some x → Go C Z (k x)) : Go C Z (askB (.cmp op a b) k) := go_ask (g := .bool) rfl (fun _ => rfl) h
theorem Go.have {b : Bool} {k : Bool → Ans R} (h : Go C Z (k b)) : Go C Z (askB (.have b) k) := go_ask (g := .bool) (o := some b) rfl (fun _ => rfl) fun _ e => Option.some.inj e ▸ h
theorem Go.call {a : Addr} {vs : List V} {μ : Mu} {k : Slot × Mu → Ans R} (h : ∀ x, C a vs μ = some x → Go C Z (k x)) : Go C Z (askC (.call a vs μ) k) := go_ask (g := (fun p => .call p.1 p.2)) rfl (fun _ => rfl) h
end
noncomputable def Steps (C : CallT) {β : Type} (step : {R : Type} → (β → St → P.Ans R) → P.Ans R) (Q : β → St → Prop) : Prop :=
  ∀ {R : Type} {Z : R → Prop} (k : β → St → P.Ans R), (∀ b σ', Q b σ' → Go C Z (k b σ')) → Go C Z (step k)
noncomputable def SoundE (B : Bs) (A : Around) (C : CallT) (ev : Evs) (sc : Scope) : Prop := ∀ (x : Expr) (σ : St), Steps C (fun k => ev.e x σ k) (EQ B A sc x σ)
noncomputable def SoundB (B : Bs) (A : Around) (C : CallT) (ev : Evs) (sc : Scope) : Prop := ∀ (x : Expr) (σ : St), Steps C (fun k => ev.b x σ k) (BQ B A sc x σ)
theorem inFrame_tag {q : Spec} (h : q.inFrame) : Nat.beq 2 q.tag = false := by
  cases q with
  | ns m => rfl
  | cell L x c => rfl
  | var L x v => rfl
  | _ => exact h.elim
theorem Inv.freeze_res {B : Bs} {env : Env} {own : Bool} {σ : St} {Rm R' : RM} {s : Shared} {sl : Slot} {u : Value} {v : V} {L : Option Addr} (I : Inv B env own σ R' s) (hr : ResOK B.w Rm R' sl u) (hv : sl.v? = some v) (x : Ext L Rm R') :
    Post B env own σ L Rm (PVal B.w v) u s := by
  cases sl with
  | val v' => cases hv; exact ⟨R', I, x, hr⟩
  | own v' =>
    cases hv
    obtain ⟨a, rfl, ha, hn⟩ := hr
    obtain ⟨o, ho, hv', H, le, hv2, hz⟩ := I.hs.freeze ha rfl
    have ne : ∀ {b sp}, Rm b = some sp → b ≠ a := fun e q => by rw [q, hn] at e; exact ns e
    refine ⟨_, ⟨H, I.fm.le le fun b q e h => upd_keep ha e (inFrame_tag h), I.rg.ext_same (upd_reg_iff ha rfl rfl)⟩, ⟨fun b sp e => (x.dom b sp e).imp fun sp' h' => (upd_ne _ _ (ne e)).trans h', fun b sp e => ?_⟩, .obj _ _ o hz (upd_same ..) hv2⟩
    have h1 := x.old b sp e
    have hb := upd_ne R' (.frozen o) (ne e)
    cases sp with
    | reg r z => exact h1.imp fun z' q => hb.trans q
    | var L' y z => exact fun n => hb.trans (h1 n)
    | _ => exact hb.trans h1
  | unset => exact ns hv
  | self _ _ => exact ns hv
end Mini
namespace Mini
noncomputable def GlOK (B : Bs) : Prop := ∀ n v, gl n = some v → ∃ u, (B.mg n = some u ∨ (B.mg n = none ∧ B.mb n = some u)) ∧ ∀ R : RM, (∀ a o, B.hB.get? a = some o → R a = some (.frozen o)) → RepV B.w R v u
section
variable {B : Bs} {A : Around} {env : Env} {own : Bool} {σ : St} {Rm : RM} {s : Shared}
theorem Inv.here (I : Inv B env own σ Rm s) : ∃ R', Inv B env own σ R' s ∧ Ext (some env.locals) Rm R' := ⟨Rm, I, .refl _ _⟩
theorem Inv.tok (I : Inv B env own σ Rm s) (t : Nat) : Inv B env own σ Rm { s with toks := t } := ⟨I.hs.toks t, I.fm, I.rg⟩
theorem load_var (I : Inv B env own σ Rm s) {x : Str} {pos : Pos} {u : Value} {Q : Value → Shared → Prop} (ha : VarAt Rm env x (some u)) (hd : (x == so "__debug__") = false) (h : Q u s) :
    T B A (eval (.Name x pos) env) Q s := by
  refine wpAny_Name ?_ hd
  rcases ha with ⟨hk, m, hm, e⟩ | ⟨hk, c, L, hc, hr⟩
  · exact wpAny_loadName_local I.fm.kind hk (I.hs.holds _ _ hm) e.symm h
  · exact wpAny_loadName_cell I.fm.kind hk hc (I.hs.holds _ _ hr) h
theorem load_global (G : GlOK B) (I : Inv B env own σ Rm s) {x : Str} {pos : Pos} {v : V} {Q : Value → Shared → Prop} (hk : env.kindOf x = some .globalImplicit) (hv : gl x = some v) (hd : (x == so "__debug__") = false)
    (h : ∀ u, RepV B.w Rm v u → Q u s) : T B A (eval (.Name x pos) env) Q s := by
  obtain ⟨u, hu, hr⟩ := G x v hv
  have hg : s.heap.Ns env.globals B.mg := by rw [I.fm.glob]; exact B.g.keeps I.hs.keep
  have hb : s.heap.Ns env.builtins B.mb := by rw [I.fm.blt]; exact B.b.keeps I.hs.keep
  refine Name_function_global I.fm.kind hk ?_ hd
  rcases hu with e | ⟨e1, e2⟩
  · exact loadGlobal_global hg e (h u (hr _ I.hs.base))
  · exact loadGlobal_builtin hg e1 hb e2 (h u (hr _ I.hs.base))
theorem name_road {A : Around} {sc : Scope} {n : Str} {pos : Pos} {σ σ' : St} {sl sl' : Slot} (hd : (n == so "__debug__") = false) (hv : σ.1.lookup n = some sl)
    (h : ∀ env own Rm s u, Inv B env own σ Rm s → VarAt Rm env n (some u) → VarOK B.w Rm env.locals n sl (some u) → Post B env own σ' (some env.locals) Rm (PRes B.w sl') u s) (hu : sl ≠ .unset) : EQ B A sc (.Name n pos) σ sl' σ' := fun env own Rm s he I => by
  obtain ⟨ov, p, q⟩ := I.fm.vars n _ hv
  have : ∃ u, ov = some u := by
    cases sl with
    | unset => exact absurd rfl hu
    | val v => exact q.imp fun _ h => h.1
    | own v => obtain ⟨a, e, _⟩ := q; exact ⟨_, e⟩
    | self C fs => obtain ⟨a, d, e, _⟩ := q; exact ⟨_, e⟩
  obtain ⟨u, rfl⟩ := this
  exact load_var I p hd (h env own Rm s u I p q)
theorem val_road {A : Around} {sc : Scope} {n : Str} {pos : Pos} {σ : St} {v : V} (hd : (n == so "__debug__") = false) (hv : σ.1.lookup n = some (.val v)) : EQ B A sc (.Name n pos) σ (.val v) σ :=
  name_road hd hv (fun env own Rm s u I p ⟨u', e, q⟩ => ⟨Rm, I, .refl _ _, Option.some.inj e ▸ q⟩) (fun e => nomatch e)
theorem own_road {A : Around} {sc : Scope} {n : Str} {pos : Pos} {σ : St} {v : V} (hd : (n == so "__debug__") = false) (hv : σ.1.lookup n = some (.own v)) : EQ B A sc (.Name n pos) σ (.val v) (setv σ.1 n (.val v), σ.2) :=
  name_road hd hv (fun env own Rm s u I p ⟨a, e, q⟩ => by
    cases e
    obtain ⟨o, ho, hv', H, le, hv2, hz⟩ := I.hs.freeze q rfl
    have rv : RepV B.w (upd Rm a (.frozen o)) v (.ref a) := .obj _ _ o hz (upd_same ..) hv2
    exact ⟨_, ⟨H, I.fm.own_upd q le (fun ov2 p2 h2 => ⟨_, (p2.back rfl rfl).det p, rv⟩) hv, I.rg.ext_same (upd_reg_iff q rfl rfl)⟩, ext_upd_own q, rv⟩) (fun e => nomatch e)
theorem self_road {A : Around} {sc : Scope} {n : Str} {pos : Pos} {σ : St} {K : Addr} {fs : List (Str × V)} (hd : (n == so "__debug__") = false) (hv : σ.1.lookup n = some (.self K fs)) : EQ B A sc (.Name n pos) σ (.val (.inst K fs)) (setv σ.1 n (.val (.inst K fs)), σ.2) :=
  name_road hd hv (fun env own Rm s u I p ⟨a, d, e, qa, q, za⟩ => by
    cases e
    obtain ⟨o, ho, hv', H, le, hv2, hz⟩ := I.hs.freeze q rfl
    have hda : a ≠ d := fun e => by rw [e, q] at qa; exact nomatch qa
    have rv : RepV B.w (upd Rm d (.frozen o)) (.inst K fs) (.ref a) := by
      cases hv2 with
      | dictS kvs o kvs' h1 h2 h3 => exact .obj _ _ _ za (by rw [upd_ne _ _ hda]; exact qa) (.inst _ _ d o kvs' (upd_same ..) h1 h2 h3)
    exact ⟨_, ⟨H, I.fm.own_upd q le (fun ov2 p2 h2 => ⟨_, (p2.back rfl rfl).det p, rv⟩) hv, I.rg.ext_same (upd_reg_iff q rfl rfl)⟩, ext_upd_own q, rv⟩) (fun e => nomatch e)
theorem loc_inv {sc : Scope} {x : Str} (h : isLoc sc x = true) : sc.names.lookup x = some .local := of_decide_eq_true h
theorem cell_inv {sc : Scope} {x : Str} (h : isCell sc x = true) : sc.names.lookup x = some .cell := of_decide_eq_true h
theorem glob_inv {sc : Scope} {x : Str} (h : isGlob sc x = true) : sc.names.lookup x = some .globalImplicit := of_decide_eq_true h
theorem kind_of {sc : Scope} {env : Env} {x : Str} {kd : NameKind} (he : env.scope = sc) (h : sc.names.lookup x = some kd) : env.kindOf x = some kd := by unfold Env.kindOf; rw [he]; exact h
theorem nameCell_sound {C : CallT} {sc : Scope} {n : Str} {pos : Pos} {σ : St} {sl : Slot} (hd : (n == so "__debug__") = false) (hv : σ.1.lookup n = some sl) : Steps C (fun k => nameCell n σ sl k) (EQ B A sc (.Name n pos) σ) := fun k K => by
  cases sl with
  | val v => exact K _ _ (val_road hd hv)
  | own v => exact K _ _ (own_road hd hv)
  | _ => exact .fail
theorem nameE_sound (G : GlOK B) {C : CallT} {sc : Scope} {n : Str} {pos : Pos} {σ : St} : Steps C (fun k => nameE sc n σ k) (EQ B A sc (.Name n pos) σ) := fun k K =>
  .gdn fun hd => .opt fun kd hk => by
    cases kd with
    | «local» =>
      refine .opt fun sl hv => ?_
      cases sl with
      | self c fs => exact K _ _ (self_road hd hv)
      | _ => exact nameCell_sound hd hv k K
    | cell => exact .opt fun sl hv => nameCell_sound hd hv k K
    | globalImplicit => exact .opt fun v hv => K _ _ fun env own Rm s he I => load_global G I (kind_of he hk) hv hd fun u hu => ⟨Rm, I, .refl _ _, hu⟩
    | _ => exact .fail
end
section
variable {B : Bs} {A : Around} {C : CallT} {ev : Evs} {sc : Scope}
theorem SoundE.v (S : SoundE B A C ev sc) (x : Expr) (σ : St) : Steps C (fun k => ev.v x σ k) (VQ B A sc x σ) := fun k K =>
  S x σ _ fun sl σ' t => .opt fun v hv => K _ _ fun env own Rm s he I => Runs.go t he I fun R' u s' I' x' hr => I'.freeze_res hr hv x'
theorem starEach_cons (e : Expr) (rest : List Expr) (env : Env) (h : ∀ x p, e ≠ .Starred x p) : starEach (e :: rest) env = (false, eval e env) :: starEach rest env := by
  cases e <;> first | rfl | exact absurd rfl (h _ _)
theorem starEach_of {e : Expr} (rest : List Expr) (env : Env) (h : isStarred e = false) : starEach (e :: rest) env = (false, eval e env) :: starEach rest env :=
  starEach_cons e rest env fun x p q => by subst q; cases h
structure LQ (B : Bs) (A : Around) (sc : Scope) (es : List Expr) (σ : St) (vs : List V) (σ' : St) : Prop where
  len : vs.length = es.length
  nos : ∀ env, (starEach es env).any (·.1) = false
  go : ∀ env own Rm s pos, env.scope = sc → Inv B env own σ Rm s → T B A (spliced (backTo pos (starEach es env))) (Post B env own σ' (some env.locals) Rm (PList B.w vs)) s
theorem LQ.cons {e : Expr} {es : List Expr} {σ σ₁ σ₂ : St} {v : V} {vs : List V} (hst : isStarred e = false) (t : VQ B A sc e σ v σ₁) (t2 : LQ B A sc es σ₁ vs σ₂) : LQ B A sc (e :: es) σ (v :: vs) σ₂ := by
  refine ⟨congrArg (· + 1) t2.len, fun env => by rw [starEach_of _ _ hst, List.any_cons, t2.nos env]; rfl, fun env own Rm s pos he I => ?_⟩
  rw [starEach_of _ _ hst]
  exact spliced_cons (Runs.go t he I fun R₁ u s₁ I₁ x₁ r₁ => Post.go (t2.go env own R₁ s₁ pos he I₁) fun R₂ us s₂ I₂ x₂ r₂ => ⟨R₂, I₂, x₁.trans x₂, .cons _ _ _ _ (RepV.mono x₂.le r₁) r₂⟩)
theorem SoundE.l (S : SoundE B A C ev sc) : ∀ (es : List Expr) (σ : St), Steps C (fun k => ev.l es σ k) (LQ B A sc es σ)
  | [], σ => fun k K => K _ _ ⟨rfl, fun _ => rfl, fun env own Rm s pos he I => spliced_nil ⟨Rm, I, .refl _ _, .nil⟩⟩
  | e :: es, σ => fun k K => .gdn fun hst => S.v e σ _ fun v σ₁ t => SoundE.l S es σ₁ _ fun vs σ₂ t2 => K _ _ (t2.cons hst t)
end
end Mini
namespace Mini
structure Room (A : Around) (n : Nat) : Prop where
  hd : A.handled = none
  dp : A.depth + 4 * n ≤ 900
  un : A.units + 20 * n ≤ 9000
theorem Room.u {A : Around} {n : Nat} (r : Room A n) (k : Nat := 64) (hk : k ≤ 500 := by decide) : A.units + k < cLine := by have := r.un; unfold cLine; omega
theorem Room.lt {A : Around} {n : Nat} (r : Room A n) : A.units < cLine := r.u 0
theorem Room.room {A : Around} {n : Nat} (r : Room A n) : A.depth < recursionLimit := by have := r.dp; unfold recursionLimit; omega
structure Grow (R R' : RM) : Prop where
  old : ∀ a sp, R a = some sp → R' a = some sp
  new : ∀ a sp, R a = none → R' a = some sp → sp.regNo = none
theorem Grow.refl (R : RM) : Grow R R := ⟨fun _ _ h => h, fun a sp h e => by rw [h] at e; cases e⟩
theorem Grow.trans {R S T : RM} (x : Grow R S) (y : Grow S T) : Grow R T := ⟨fun a sp h => y.old a sp (x.old a sp h), fun a sp h e => by
  cases hs : S a with
  | none => exact y.new a sp hs e
  | some q => have := y.old a q hs; rw [e] at this; cases this; exact x.new a _ h hs⟩
theorem Grow.ext {R R' : RM} (g : Grow R R') (L : Option Addr) : Ext L R R' := ⟨fun a sp h => ⟨sp, g.old a sp h⟩, fun a sp h => .of (g.old a sp h)⟩
theorem Grow.le {R R' : RM} (g : Grow R R') : Le R R' := (g.ext none).le
theorem Grow.reg {R R' : RM} (g : Grow R R') (a : Addr) (r : Nat) (sp : Spec) (hq : sp.regNo = some r) : R a = some sp ↔ R' a = some sp :=
  ⟨g.old a _, fun e => by
    cases h : R a with
    | none => have := g.new a sp h e; rw [hq] at this; cases this
    | some q => have := g.old a q h; rw [e] at this; cases this; rfl⟩
theorem Grow.upd {R : RM} {a : Addr} {sp : Spec} (h : R a = none) (hr : sp.regNo = none) : Grow R (upd R a sp) :=
  ⟨fun b q e => by rw [upd_ne _ _ (by rintro rfl; rw [h] at e; cases e)]; exact e, fun b q hb e => by
    by_cases hba : b = a
    · subst hba; rw [upd_same] at e; cases e; exact hr
    · rw [upd_ne _ _ hba] at e; rw [hb] at e; cases e⟩
section
variable {B : Bs} {env : Env} {own : Bool} {σ : St} {R R' : RM} {s s' : Shared}
theorem Inv.grow (I : Inv B env own σ R s) (H : HS B R' s') (g : Grow R R') : Inv B env own σ R' s' := ⟨H, I.fm.ext (g.ext none), I.rg.ext_same g.reg⟩
end
noncomputable def Seen (w : World) (R : RM) (h : Heap) (v : V) (u : Value) : Prop := RepV w R v u ∨ ∃ a o, u = .ref a ∧ h.get? a = some o ∧ RepO w R v o ∧ (a == sysModules) = false
theorem Seen.of {w : World} {R : RM} {h : Heap} {v : V} {u : Value} (x : RepV w R v u) : Seen w R h v u := .inl x
theorem dictOf_iff {w : World} {K : Type} [DecidableEq K] {knd : KeyKind PW w K} {h : Heap} {a : Addr} {kvs : List (K × Value)} : h.DictOf knd a kvs ↔ ∃ o, h.get? a = some o ∧ DictObj knd o kvs :=
  ⟨fun ⟨o, es, ep, ho, r⟩ => ⟨o, ho, es, ep, r⟩, fun ⟨o, ho, es, ep, r⟩ => ⟨o, es, ep, ho, r⟩⟩
theorem ft {P : Prop} (h : false = true) : P := nomatch h
theorem V.str_eq {v : V} {x : Str} (h : v.str? = some x) : v = .str x := by cases v with | str y => exact congrArg V.str (Option.some.inj h) | _ => exact ns h
theorem V.int_eq {v : V} {x : Int} (h : v.int? = some x) : v = .int x := by cases v with | int y => exact congrArg V.int (Option.some.inj h) | _ => exact ns h
theorem V.bool_eq {v : V} {x : Bool} (h : v.bool? = some x) : v = .bool x := by cases v with | bool y => exact congrArg V.bool (Option.some.inj h) | _ => exact ns h
theorem V.list_eq {v : V} {x : List V} (h : v.list? = some x) : v = .list x := by cases v with | list y => exact congrArg V.list (Option.some.inj h) | _ => exact ns h
theorem V.tuple_eq {v : V} {x : List V} (h : v.tuple? = some x) : v = .tuple x := by cases v with | tuple y => exact congrArg V.tuple (Option.some.inj h) | _ => exact ns h
theorem V.dictS_eq {v : V} {x : List (Str × V)} (h : v.dictS? = some x) : v = .dictS x := by cases v with | dictS y => exact congrArg V.dictS (Option.some.inj h) | _ => exact ns h
theorem V.inst_eq {v : V} {x : Addr × List (Str × V)} (h : v.inst? = some x) : v = .inst x.1 x.2 := by cases v with | inst a b => cases h; rfl | _ => exact ns h
theorem V.reg_eq {v : V} {x : Nat} (h : v.reg? = some x) : v = .reg x := by cases v with | reg y => exact congrArg V.reg (Option.some.inj h) | _ => exact ns h
theorem V.stat_eq {v : V} {x : Addr} (h : v.stat? = some x) : v = .stat x := by cases v with | stat y => exact congrArg V.stat (Option.some.inj h) | _ => exact ns h
theorem V.none_eq {v : V} (h : v.none? = true) : v = .none := by cases v with | none => rfl | _ => exact ft h
noncomputable def V.boxed : V → Bool
  | .list _ => true
  | .tuple _ => true
  | .dictS _ => true
  | .dictI _ => true
  | .inst _ _ => true
  | .range _ => true
  | _ => false
noncomputable def ObjAs (w : World) (R : RM) (v : V) (o : Obj) : Prop := match v with
  | .list xs => ∃ items ep, o = { cls := .type "list", data := .seq (List.toArray items) ep } ∧ RepL w R xs items
  | .tuple xs => ∃ items ep, o = { cls := .type "tuple", data := .seq (List.toArray items) ep } ∧ RepL w R xs items
  | .dictS kvs => ∃ kvs', DictObj (strKind PW w) o kvs' ∧ kvs.map (·.1) = kvs'.map (·.1) ∧ RepL w R (kvs.map (·.2)) (kvs'.map (·.2))
  | .dictI kvs => ∃ kvs', DictObj (intKind PW w) o kvs' ∧ kvs.map (·.1) = kvs'.map (·.1) ∧ RepL w R (kvs.map (·.2)) (kvs'.map (·.2))
  | .inst C fs => ∃ d o' kvs', o = { cls := .ref C, dict := some d, data := .plain } ∧ R d = some (.frozen o') ∧ DictObj (strKind PW w) o' kvs' ∧ fs.map (·.1) = kvs'.map (·.1) ∧ RepL w R (fs.map (·.2)) (kvs'.map (·.2))
  | .range n => ∃ t u v, o = rangeObj n t u v
  | _ => False
theorem RepO.inv {w : World} {R : RM} {v : V} {o : Obj} (h : RepO w R v o) : ObjAs w R v o := by
  cases h with
  | list xs items ep h => exact ⟨items, ep, rfl, h⟩
  | tuple xs items ep h => exact ⟨items, ep, rfl, h⟩
  | dictS kvs o kvs' h1 h2 h3 => exact ⟨kvs', h1, h2, h3⟩
  | dictI kvs o kvs' h1 h2 h3 => exact ⟨kvs', h1, h2, h3⟩
  | inst C fs d o kvs' h h1 h2 h3 => exact ⟨d, o, kvs', rfl, h, h1, h2, h3⟩
  | range n t u v => exact ⟨t, u, v, rfl⟩
noncomputable def FlatAs (R : RM) (u : Value) (v : V) : Prop := match v with
  | .none => u = .none
  | .bool b => u = .bool b
  | .int i => ∃ t, u = .int i t
  | .str s => ∃ t, u = .str s t
  | .stat a => u = .ref a
  | .fn n => u = primVal n
  | .reg r => ∃ a, u = .ref a ∧ RegAt R a r
  | _ => True
theorem RepO.boxed {w : World} {R : RM} {v : V} {o : Obj} (h : RepO w R v o) : v.boxed = true := by cases h <;> rfl
theorem flat_boxed {R : RM} {v : V} {u : Value} (h : v.boxed = true) : FlatAs R u v := by cases v <;> first | exact ft h | trivial
theorem RepV.flat {w : World} {R : RM} {v : V} {u : Value} (h : RepV w R v u) : FlatAs R u v := by
  cases h with
  | none => rfl
  | bool b => rfl
  | int i t => exact ⟨t, rfl⟩
  | str s t => exact ⟨t, rfl⟩
  | stat a => rfl
  | fn n => rfl
  | reg r a h => exact ⟨a, rfl, h⟩
  | obj v a o _ _ h => exact flat_boxed h.boxed
theorem RepV.box {w : World} {R : RM} {v : V} {u : Value} (h : RepV w R v u) (hb : v.boxed = true) : ∃ a o, u = .ref a ∧ (a == sysModules) = false ∧ R a = some (.frozen o) ∧ RepO w R v o := by
  cases h with
  | obj v a o h1 h2 h3 => exact ⟨a, o, rfl, h1, h2, h3⟩
  | _ => exact ft hb
theorem RepL.inv {w : World} {R : RM} {v : V} {vs : List V} {us : List Value} (h : RepL w R (v :: vs) us) : ∃ u r, us = u :: r ∧ RepV w R v u ∧ RepL w R vs r := by
  cases h with
  | cons v u vs r h1 h2 => exact ⟨u, r, rfl, h1, h2⟩
theorem Seen.flat {w : World} {R : RM} {h : Heap} {v : V} {u : Value} (y : Seen w R h v u) : FlatAs R u v := by
  rcases y with y | ⟨_, _, _, _, z, _⟩
  · exact y.flat
  · exact flat_boxed z.boxed
section
variable {w : World} {R : RM} {h : Heap} {v : V} {u : Value}
theorem Seen.str {x : Str} (y : Seen w R h v u) (e : v.str? = some x) : ∃ t, u = .str x t := by cases V.str_eq e; exact y.flat
theorem Seen.int {x : Int} (y : Seen w R h v u) (e : v.int? = some x) : ∃ t, u = .int x t := by cases V.int_eq e; exact y.flat
theorem Seen.bool {x : Bool} (y : Seen w R h v u) (e : v.bool? = some x) : u = .bool x := by cases V.bool_eq e; exact y.flat
theorem Seen.none (y : Seen w R h v u) (e : v.none? = true) : u = .none := by cases V.none_eq e; exact y.flat
theorem RepV.str_inv {x : Str} (y : RepV w R v u) (e : v.str? = some x) : ∃ t, u = .str x t := by cases V.str_eq e; exact y.flat
theorem RepV.int_inv {x : Int} (y : RepV w R v u) (e : v.int? = some x) : ∃ t, u = .int x t := by cases V.int_eq e; exact y.flat
theorem RepV.bool_inv {x : Bool} (y : RepV w R v u) (e : v.bool? = some x) : u = .bool x := by cases V.bool_eq e; exact y.flat
end
section
variable {B : Bs} {R : RM} {s : Shared}
theorem Seen.obj (H : HS B R s) {v : V} {u : Value} (x : Seen B.w R s.heap v u) (hb : v.boxed = true) : ∃ a o, u = .ref a ∧ s.heap.get? a = some o ∧ RepO B.w R v o ∧ (a == sysModules) = false := by
  rcases x with x | x
  · obtain ⟨a, o, e, h1, h2, h3⟩ := x.box hb
    exact ⟨a, o, e, H.frozen h2, h3, h1⟩
  · exact x
theorem Seen.list (H : HS B R s) {v : V} {xs : List V} {u : Value} (x : Seen B.w R s.heap v u) (e : v.list? = some xs) : ∃ a items ep, u = .ref a ∧ IsL s.heap a (List.toArray items) ep ∧ RepL B.w R xs items := by
  cases V.list_eq e
  obtain ⟨a, o, rfl, ho, r, hz⟩ := x.obj H rfl
  obtain ⟨items, ep, rfl, h⟩ := r.inv
  exact ⟨a, items, ep, rfl, ho, h⟩
theorem Seen.tuple (H : HS B R s) {v : V} {xs : List V} {u : Value} (x : Seen B.w R s.heap v u) (e : v.tuple? = some xs) : ∃ a items, u = .ref a ∧ s.heap.IsTuple a (List.toArray items) ∧ RepL B.w R xs items := by
  cases V.tuple_eq e
  obtain ⟨a, o, rfl, ho, r, hz⟩ := x.obj H rfl
  obtain ⟨items, ep, rfl, h⟩ := r.inv
  exact ⟨a, items, rfl, ⟨_, ho, rfl, ep, rfl⟩, h⟩
theorem Seen.dictS (H : HS B R s) {v : V} {kvs : List (Str × V)} {u : Value} (x : Seen B.w R s.heap v u) (e : v.dictS? = some kvs) : ∃ a kvs', u = .ref a ∧ (a == sysModules) = false ∧ s.heap.DictOf (strKind PW B.w) a kvs' ∧ kvs.map (·.1) = kvs'.map (·.1) ∧ RepL B.w R (kvs.map (·.2)) (kvs'.map (·.2)) := by
  cases V.dictS_eq e
  obtain ⟨a, o, rfl, ho, r, hz⟩ := x.obj H rfl
  exact r.inv.elim fun kvs' h => ⟨a, kvs', rfl, hz, dictOf_iff.mpr ⟨o, ho, h.1⟩, h.2⟩
theorem Seen.dictI (H : HS B R s) {kvs : List (Int × V)} {u : Value} (x : Seen B.w R s.heap (.dictI kvs) u) : ∃ a kvs', u = .ref a ∧ (a == sysModules) = false ∧ s.heap.DictOf (intKind PW B.w) a kvs' ∧ kvs.map (·.1) = kvs'.map (·.1) ∧ RepL B.w R (kvs.map (·.2)) (kvs'.map (·.2)) := by
  obtain ⟨a, o, rfl, ho, r, hz⟩ := x.obj H rfl
  exact r.inv.elim fun kvs' h => ⟨a, kvs', rfl, hz, dictOf_iff.mpr ⟨o, ho, h.1⟩, h.2⟩
end
theorem RepL.nil_inv {w : World} {R : RM} {us : List Value} (h : RepL w R [] us) : us = [] := by cases h; rfl
theorem RepL.length {w : World} {R : RM} {xs : List V} {us : List Value} (h : RepL w R xs us) : us.length = xs.length := by
  induction xs generalizing us with
  | nil => rw [h.nil_inv]; rfl
  | cons v vs ih =>
    obtain ⟨u, r, rfl, _, h2⟩ := h.inv
    exact congrArg (· + 1) (ih h2)
section
variable {w : World} {R : RM} {h : Heap}
noncomputable def RdV (h : Heap) (v : V) (u : Value) : Prop := ∀ d, dat v = some d → ∃ as, Reads h u d as
noncomputable def RdO (h : Heap) (v : V) (o : Obj) : Prop := ∀ d a, dat v = some d → h.get? a = some o → ∃ as, Reads h (.ref a) d as
noncomputable def RdL (h : Heap) (vs : List V) (us : List Value) : Prop := ∀ ds, dats vs = some ds → ∃ as, ReadsAll h us ds as
theorem rdv {u : Value} {d d' : PyData} {as : List Addr} (q : Reads h u d as) (e : some d = some d') : ∃ as, Reads h u d' as := ⟨as, Option.some.inj e ▸ q⟩
theorem rdl_nil : RdL h [] [] := fun _ e => ⟨[], Option.some.inj e ▸ .nil⟩
theorem rd_list {xs : List V} {items : List Value} {ep : Nat} (r : RdL h xs items) : RdO h (.list xs) { cls := .type "list", data := .seq items.toArray ep } := fun d a e ha => by
  obtain ⟨ds, hds, rfl⟩ := Option.map_eq_some_iff.mp (show (dats xs).map .list = some d from e)
  exact (r _ hds).elim fun as q => ⟨_, .list ha rfl rfl q⟩
theorem rd_tuple {xs : List V} {items : List Value} {ep : Nat} (r : RdL h xs items) : RdO h (.tuple xs) { cls := .type "tuple", data := .seq items.toArray ep } := fun d a e ha => by
  obtain ⟨ds, hds, rfl⟩ := Option.map_eq_some_iff.mp (show (dats xs).map .tuple = some d from e)
  exact (r _ hds).elim fun as q => ⟨_, .tuple ha rfl rfl q⟩
theorem rd_cons {v : V} {u : Value} {vs : List V} {us : List Value} (x : RdV h v u) (r : RdL h vs us) : RdL h (v :: vs) (u :: us) := fun ds e => by
  obtain ⟨d, hd, e⟩ := Option.bind_eq_some_iff.mp (show ((dat v).bind fun d => (dats vs).map fun ds => d :: ds) = some ds from e)
  obtain ⟨ds', hds, rfl⟩ := Option.map_eq_some_iff.mp e
  exact (x _ hd).elim fun as q => (r _ hds).elim fun bs q' => ⟨_, .cons q q'⟩
theorem RepV.reads {v : V} {u : Value} (x : RepV w R v u) (hf : ∀ a o, R a = some (.frozen o) → h.get? a = some o) : RdV h v u :=
  RepV.rec (motive_1 := fun v u _ => RdV h v u) (motive_2 := fun v o _ => RdO h v o) (motive_3 := fun vs us _ => RdL h vs us)
    (fun _ e => rdv .none e) (fun b _ e => rdv (.bool b) e) (fun i t _ e => rdv (.int i t) e) (fun s t _ e => rdv (.str s t) e) (fun _ _ e => ns e) (fun _ _ e => ns e) (fun _ _ _ _ e => ns e)
    (fun _ _ _ _ ha _ ih _ e => ih _ _ e (hf _ _ ha)) (fun _ _ _ _ ih => rd_list ih) (fun _ _ _ _ ih => rd_tuple ih) (fun _ _ _ _ _ _ _ _ _ e => ns e) (fun _ _ _ _ _ _ _ _ _ e => ns e) (fun _ _ _ _ _ _ _ _ _ _ _ _ e => ns e) (fun _ _ _ _ _ _ e => ns e)
    rdl_nil (fun _ _ _ _ _ _ ih1 ih2 => rd_cons ih1 ih2) x
theorem RepL.reads (hf : ∀ a o, R a = some (.frozen o) → h.get? a = some o) {vs : List V} {us : List Value} (x : RepL w R vs us) : RdL h vs us := by
  induction vs generalizing us with
  | nil => rw [x.nil_inv]; exact rdl_nil
  | cons v vs ih =>
    obtain ⟨u, r, rfl, h1, h2⟩ := x.inv
    exact rd_cons (h1.reads hf) (ih h2)
theorem RepO.reads (hf : ∀ a o, R a = some (.frozen o) → h.get? a = some o) {v : V} {o : Obj} (x : RepO w R v o) : RdO h v o := by
  cases x with
  | list xs items ep h => exact rd_list (h.reads hf)
  | tuple xs items ep h => exact rd_tuple (h.reads hf)
  | _ => exact fun _ _ e => ns e
end
theorem Seen.reads {B : Bs} {R : RM} {s : Shared} (H : HS B R s) {v : V} {u : Value} (x : Seen B.w R s.heap v u) : RdV s.heap v u := by
  rcases x with x | ⟨a, o, rfl, ho, r, _⟩
  · exact x.reads fun _ _ => H.frozen
  · exact fun d e => r.reads (fun _ _ => H.frozen) d a e ho
section
variable {B : Bs} {A : Around} {R : RM} {s : Shared} {n : Nat}
inductive EqWay (h : Heap) : Value → Value → Bool → Prop
  | str (x y : Str) (t t' : Tok) : EqWay h (.str x t) (.str y t') (x == y)
  | int (x y : Int) (t t' : Tok) : EqWay h (.int x t) (.int y t') (x == y)
  | data {u v : Value} {x y : PyData} {as bs : List Addr} (p : Reads h u x as) (q : Reads h v y bs) (h1 : SeqAt.shaped x = true) (h2 : SeqAt.shaped y = true) : EqWay h u v (PyData.eqv x y)
section
variable {a b : V} {u v : Value} (H : HS B R s) (ha : Seen B.w R s.heap a u) (hb : Seen B.w R s.heap b v)
include H ha hb
theorem veqG_way : Gv (EqWay s.heap u v) (veqG a b) := .bind fun _ hx => .bind fun _ hy => .gdo fun h1 => .gdo fun h2 => .some ((ha.reads H _ hx).elim fun _ p => (hb.reads H _ hy).elim fun _ q => .data p q h1 h2)
theorem veq_way : Gv (EqWay s.heap u v) (veq a b) := .els (fun x hx => .els (fun y hy => by
    obtain ⟨t, rfl⟩ := ha.str hx
    obtain ⟨t', rfl⟩ := hb.str hy
    exact .some (.str x y t t')) fun _ => veqG_way H ha hb) fun _ => .els (fun x hx => .els (fun y hy => by
    obtain ⟨t, rfl⟩ := ha.int hx
    obtain ⟨t', rfl⟩ := hb.int hy
    exact .some (.int x y t t')) fun _ => veqG_way H ha hb) fun _ => veqG_way H ha hb
theorem veq_at (rm : A.units + 64 < cLine) : Gv (SeqAt.EqAt A s u v) (veq a b) := fun r e => by
  cases veq_way H ha hb r e with
  | str x y t t' => exact .str_str x t y t'
  | int x y t t' => exact .int_int x t y t'
  | data p q h1 h2 => exact SeqAt.eqAt_reads _ _ A s _ _ _ _ p q (SeqAt.canLay_of_shaped h1) (SeqAt.canLay_of_shaped h2) (SeqAt.room_of_shaped h1 rm)
end
noncomputable def Finds (w : World) (R : RM) (x : Option V) (y : Option Value) : Prop := match x with
  | some v => ∃ u, y = some u ∧ RepV w R v u
  | none => y = none
theorem look_cons {K : Type} [BEq K] {k y : K} {v : V} {r : List (K × V)} : look k ((y, v) :: r) = match y == k with | true => some v | false => look k r := rfl
theorem look_rep {w : World} {K : Type} [DecidableEq K] (k : K) {kvs : List (K × V)} : ∀ {kvs' : List (K × Value)}, kvs.map (·.1) = kvs'.map (·.1) → RepL w R (kvs.map (·.2)) (kvs'.map (·.2)) → Finds w R (look k kvs) (valueAt kvs' k) := by
  induction kvs with
  | nil => intro kvs' h _; rw [List.map_eq_nil_iff.mp h.symm]; rfl
  | cons p r ih =>
    intro kvs' h q
    cases kvs' with
    | nil => exact nomatch h
    | cons p' r' =>
    obtain ⟨h0, h⟩ := List.cons.inj h
    replace h0 : p.1 = p'.1 := h0
    obtain ⟨u, us, e, q1, q2⟩ := q.inv
    obtain ⟨rfl, rfl⟩ := List.cons.inj e
    have ih := ih h q2
    show Finds w R (match p.1 == k with | true => some p.2 | false => look k r) _
    cases hk : p.1 == k with
    | true => exact ⟨p'.2, by rw [valueAt, List.find?_cons_of_pos (by rw [← h0]; exact decide_eq_true (beq_iff_eq.mp hk))]; rfl, q1⟩
    | false =>
      have e : valueAt (p' :: r') k = valueAt r' k := by rw [valueAt, List.find?_cons_of_neg (by rw [← h0]; exact fun q => beq_eq_false_iff_ne.mp hk (of_decide_eq_true q))]; rfl
      rw [e]; exact ih
theorem look_some {w : World} {K : Type} [DecidableEq K] (k : K) {kvs : List (K × V)} {kvs' : List (K × Value)} (h : kvs.map (·.1) = kvs'.map (·.1)) (r : RepL w R (kvs.map (·.2)) (kvs'.map (·.2))) : (look k kvs).isSome = (valueAt kvs' k).isSome := by
  have := look_rep k h r
  cases hl : look k kvs with
  | none => rw [hl] at this; rw [show valueAt kvs' k = none from this]; rfl
  | some v => rw [hl] at this; obtain ⟨x, hx, _⟩ := this; rw [hx]; rfl
noncomputable def eqS (k : V) (y : Value) : Bool := match k with
  | .str x => match y with
    | .str z _ => z == x
    | _ => false
  | _ => false
theorem strIn_sound {k : V} {u : Value} (hk : Seen B.w R s.heap k u) {xs : List V} : ∀ {items : List Value}, RepL B.w R xs items → Gv (fun r => (∀ y ∈ items, SeqAt.EqAt A s y u (eqS k y)) ∧ items.any (eqS k) = r) (strIn k xs) := by
  induction xs with
  | nil => intro items h; rw [h.nil_inv]; exact .some ⟨(fun _ h => nomatch h), rfl⟩
  | cons v r ih =>
    intro items h
    obtain ⟨y, us, rfl, h1, h2⟩ := h.inv
    refine .bind fun z hz => ?_
    obtain ⟨t, rfl⟩ := h1.str_inv hz
    cases k with
    | str x =>
      obtain ⟨t', rfl⟩ := hk.str rfl
      exact .map fun b hb => ⟨List.forall_mem_cons.mpr ⟨.str_str z t x t', (ih h2 b hb).1⟩, congrArg ((z == x) || ·) (ih h2 b hb).2⟩
    | none =>
      rw [hk.none rfl] at ih ⊢
      exact fun b hb => ⟨List.forall_mem_cons.mpr ⟨.str_none z t, (ih h2 b hb).1⟩, (ih h2 b hb).2⟩
    | _ => exact .none
theorem veqd_hits (H : HS B R s) (rm : A.units + 64 < cLine) {kb : List (Str × V)} {kb' : List (Str × Value)} (hb : kb.map (·.1) = kb'.map (·.1)) (rb : RepL B.w R (kb.map (·.2)) (kb'.map (·.2))) {ka : List (Str × V)} :
    ∀ {ka' : List (Str × Value)}, ka.map (·.1) = ka'.map (·.1) → RepL B.w R (ka.map (·.2)) (ka'.map (·.2)) → Gv (KeqHits A s kb' ka') (veqd ka kb) := by
  induction ka with
  | nil => intro ka' h _; rw [List.map_eq_nil_iff.mp h.symm]; exact .some .nil
  | cons p r ih =>
    intro ka' h q
    cases ka' with
    | nil => exact nomatch h
    | cons p' r' =>
    obtain ⟨h0, h⟩ := List.cons.inj h
    replace h0 : p.1 = p'.1 := h0
    obtain ⟨u, us, e, q1, q2⟩ := q.inv
    obtain ⟨rfl, rfl⟩ := List.cons.inj e
    have lk := look_rep p.1 hb rb
    refine .els (fun y hy => .bind fun a ha => .map fun b hb => ?_) fun hn => .some ?_
    · rw [hy] at lk
      obtain ⟨z, hz, rz⟩ := lk
      exact .hit (h0 ▸ hz) (veq_at H (.of q1) (.of rz) rm a ha) (ih h q2 b hb)
    · rw [hn] at lk
      exact .miss (h0 ▸ lk)
noncomputable def Answ (s : Shared) (b : Bool) (x : Value) (s' : Shared) : Prop := x = .bool b ∧ ∃ t, s' = { s with toks := t }
theorem answ (b : Bool) : Answ s b (.bool b) s := ⟨rfl, s.toks, rfl⟩
noncomputable def Both (B : Bs) (A : Around) (s : Shared) (u v : Value) (op op' : CmpOp) (r : Bool) : Prop := T B A (compareOp op u v) (Answ s r) s ∧ T B A (compareOp op' u v) (Answ s (!r)) s
section
variable {a b : V} {u v : Value} (H : HS B R s) (rm : Room A n) (ha : Seen B.w R s.heap a u) (hb : Seen B.w R s.heap b v)
include H rm ha hb
theorem veq_both : Gv (Both B A s u v .Eq .NotEq) (veq a b) := fun r e => by
  cases veq_way H ha hb r e with
  | str x y t t' => exact ⟨eq_str (answ _), ne_str (answ _)⟩
  | int x y t t' => exact ⟨eq_int (answ _), ne_int (answ _)⟩
  | data p q h1 h2 => exact ⟨SeqAt.compareEq_shaped p q h1 h2 (rm.u 64) (answ _), SeqAt.compareNe_shaped p q h1 h2 (rm.u 64) (answ _)⟩
theorem cmpEq_sound : Gv (Both B A s u v .Eq .NotEq) (cmpEq a b) := .els (fun xs hx => .els (fun ys hy => by
    obtain ⟨a1, ka, rfl, z1, d1, k1, r1⟩ := ha.dictS H hx
    obtain ⟨a2, kb, rfl, z2, d2, k2, r2⟩ := hb.dictS H hy
    have l : (ka.length == kb.length) = (xs.length == ys.length) := by rw [← List.length_map (as := ka) (f := (·.1)), ← k1, List.length_map, ← List.length_map (as := kb) (f := (·.1)), ← k2, List.length_map]
    refine .br (fun hl r e => ?_) fun hl => .some ?_
    · have hits := veqd_hits (A := A.in1) H (rm.u 65) k2 r2 k1 r1 r e
      exact ⟨keq_eq z1 z2 d1 d2 rm.lt (fun _ => hits) (by rw [l, hl]; exact answ _), keq_ne z1 z2 d1 d2 rm.lt (fun _ => hits) (by rw [l, hl]; exact answ _)⟩
    · have no : ka.length = kb.length → KeqHits A.in1 s kb ka false := fun q => by rw [hl, q, beq_self_eq_true] at l; exact nomatch l
      exact ⟨keq_eq z1 z2 d1 d2 rm.lt no (by rw [l, hl]; exact answ _), keq_ne z1 z2 d1 d2 rm.lt no (by rw [l, hl]; exact answ _)⟩) fun _ => veq_both H rm ha hb) fun _ => veq_both H rm ha hb
theorem isIn_sound : Gv (Both B A s u v .In .NotIn) (isIn a b) := by
  cases b with
  | list xs =>
    obtain ⟨l, items, ep, rfl, hl, hr⟩ := hb.list H rfl
    intro r e
    obtain ⟨hf, rfl⟩ := strIn_sound (A := A.in1) ha hr r e
    exact ⟨SeqAt.in_listAt (eqS a) hl.isList (fun y hy => hf y (by simpa using hy)) (by simpa using answ _), SeqAt.notIn_listAt (eqS a) hl.isList (fun y hy => hf y (by simpa using hy)) (by simpa using answ _)⟩
  | tuple xs =>
    obtain ⟨l, items, rfl, hl, hr⟩ := hb.tuple H rfl
    intro r e
    obtain ⟨hf, rfl⟩ := strIn_sound (A := A.in1) ha hr r e
    exact ⟨SeqAt.in_tupleAt (eqS a) hl (fun y hy => hf y (by simpa using hy)) (by simpa using answ _), SeqAt.notIn_tupleAt (eqS a) hl (fun y hy => hf y (by simpa using hy)) (by simpa using answ _)⟩
  | dictS kvs =>
    obtain ⟨d, kvs', rfl, hz, hd, hk, hr⟩ := hb.dictS H rfl
    refine .map fun x hx => ?_
    obtain ⟨t, rfl⟩ := ha.str hx
    rw [look_some x hk hr]
    exact ⟨wpAny_in_of (strKind_is _ _ _ t) hz hd.mapOf ⟨rfl, _, rfl⟩, wpAny_notIn_of (strKind_is _ _ _ t) hz hd.mapOf ⟨rfl, _, rfl⟩⟩
  | dictI kvs =>
    obtain ⟨d, kvs', rfl, hz, hd, hk, hr⟩ := hb.dictI H
    refine .map fun x hx => ?_
    obtain ⟨t, rfl⟩ := ha.int hx
    rw [look_some x hk hr]
    exact ⟨wpAny_in_of (intKind_is _ _ _ t) hz hd.mapOf ⟨rfl, _, rfl⟩, wpAny_notIn_of (intKind_is _ _ _ t) hz hd.mapOf ⟨rfl, _, rfl⟩⟩
  | str y =>
    obtain ⟨t', rfl⟩ := hb.str rfl
    refine .map fun x hx => ?_
    obtain ⟨t, rfl⟩ := ha.str hx
    exact ⟨SB.contains (answ _), SB.notContains (answ _)⟩
  | _ => exact .none
omit hb rm in
theorem nothing_sound : Gv (Both B A s u .none .Is .IsNot) (noneSays a) := by
  cases a with
  | none => cases ha.none rfl; exact .some ⟨is_none_none (answ _), isnot_none_none (answ _)⟩
  | str x => obtain ⟨t, rfl⟩ := ha.str rfl; exact .some ⟨is_none_ne (fun e => nomatch e) (answ _), isnot_none_ne (fun e => nomatch e) (answ _)⟩
  | inst K fs => obtain ⟨_, _, rfl, _⟩ := ha.obj H rfl; exact .some ⟨is_none_ne (fun e => nomatch e) (answ _), isnot_none_ne (fun e => nomatch e) (answ _)⟩
  | _ => exact .none
omit H rm in
theorem ints_sound {op : CmpOp} {f : Int → Int → Bool} (h : ∀ x y t t', T B A (compareOp op (.int x t) (.int y t')) (Answ s (f x y)) s) : Gv (fun r => T B A (compareOp op u v) (Answ s r) s) (int2B a b f) := .bind fun x hx => .map fun y hy => by
  obtain ⟨t, rfl⟩ := ha.int hx
  obtain ⟨t', rfl⟩ := hb.int hy
  exact h x y t t'
theorem cmp_sound {op : CmpOp} : Gv (fun r => T B A (compareOp op u v) (Answ s r) s) (cmpop op a b) := by
  cases op with
  | Eq => exact fun r e => (cmpEq_sound H rm ha hb r e).1
  | NotEq => exact .map fun r e => (cmpEq_sound H rm ha hb r e).2
  | In => exact fun r e => (isIn_sound H rm ha hb r e).1
  | NotIn => exact .map fun r e => (isIn_sound H rm ha hb r e).2
  | Is => exact .gdo fun hn => by cases hb.none hn; exact fun r e => (nothing_sound H ha r e).1
  | IsNot => exact .gdo fun hn => by cases hb.none hn; exact .map fun r e => (nothing_sound H ha r e).2
  | Lt => exact ints_sound ha hb fun x y t t' => lt_int (answ _)
  | LtE => exact .none
  | Gt => exact ints_sound ha hb fun x y t t' => gt_int (answ _)
  | GtE => exact ints_sound ha hb fun x y t t' => ge_int (answ _)
end
end
end Mini
namespace Mini
inductive GivesV (B : Bs) (R : RM) (sl : Slot) (u : Value) (s' : Shared) : Prop
  | mk (R' : RM) (h : HS B R' s') (g : Grow R R') (q : ResOK B.w R R' sl u) : GivesV B R sl u s'
theorem fits_size {n : Nat} (h : fits n = true) : n ≤ 16000000 := Nat.le_of_ble_eq_true h
theorem fits_line {n : Nat} (h : fits n = true) : n ≤ sizeLine := by have := fits_size h; rw [sizeLine_eq]; omega
theorem RepL.append {w : World} {R : RM} {xs ys : List V} {us vs : List Value} (h : RepL w R xs us) (h' : RepL w R ys vs) : RepL w R (xs ++ ys) (us ++ vs) := by
  induction xs generalizing us with
  | nil => rw [h.nil_inv]; exact h'
  | cons v vs ih =>
    obtain ⟨u, r, rfl, h1, h2⟩ := h.inv
    exact .cons _ _ _ _ h1 (ih h2)
theorem RepL.replicate {w : World} {R : RM} {x : V} {u : Value} (h : RepV w R x u) : ∀ n, RepL w R (List.replicate n x) (List.replicate n u)
  | 0 => .nil
  | n + 1 => .cons _ _ _ _ h (replicate h n)
section
variable {B : Bs} {A : Around} {R : RM} {s : Shared} {n : Nat}
theorem give_val (H : HS B R s) {v : V} {u : Value} (h : RepV B.w R v u) (t : Nat) : GivesV B R (.val v) u { s with toks := t } := ⟨R, H.toks t, .refl _, h⟩
theorem give_own (H : HS B R s) {o : Obj} {v : V} (hf : o.isFreed = false) (h : RepO B.w R v o) (t : Nat) : GivesV B R (.own v) (.ref s.heap.objs.size) { s with heap := s.heap.push o, toks := t } := by
  have le := le_upd_fresh (sp := .temp v) H.fresh
  exact ⟨_, (H.alloc (sp := .temp v) hf ⟨o, Heap.get?_push_size _ hf, h.mono le, H.sm⟩ (fun _ e => by cases e) rfl).toks t, .upd H.fresh rfl, _, rfl, upd_same .., H.fresh⟩
theorem give_new (H : HS B R s) {o : Obj} {v : V} (hf : o.isFreed = false) (h : RepO B.w R v o) (t : Nat) : GivesV B R (.val v) (.ref s.heap.objs.size) { s with heap := s.heap.push o, toks := t } := by
  have le := le_upd_fresh (sp := .frozen o) H.fresh
  exact ⟨_, (H.alloc (sp := .frozen o) hf (Heap.get?_push_size _ hf) (fun _ e => by cases e) rfl).toks t, .upd H.fresh rfl, .obj _ _ o H.sm (upd_same ..) (h.mono le)⟩
theorem give_list (H : HS B R s) {xs : List V} {items : List Value} (h : RepL B.w R xs items) (t : Nat) : GivesV B R (.own (.list xs)) (.ref s.heap.objs.size) { s with heap := s.heap.push { cls := .type "list", data := .seq items.toArray }, toks := t } :=
  give_own H rfl (.list _ _ _ h) t
theorem one_inv {α : Type} {l : List α} {x : α} (h : one? l = some x) : l = [x] := by
  rcases l with _ | ⟨y, _ | _⟩
  · exact ns h
  · exact congrArg (fun z => [z]) (Option.some.inj h)
  · exact ns h
theorem two_inv {α : Type} {l : List α} {p : α × α} (h : two? l = some p) : l = [p.1, p.2] := by
  cases l with
  | nil => exact ns h
  | cons x r =>
    obtain ⟨y, hy, rfl⟩ := Option.map_eq_some_iff.mp (show (one? r).map (fun y => (x, y)) = some p from h)
    rw [one_inv hy]
theorem foldl_replicate_one (x : Value) : ∀ (k : Nat) (acc : Array Value), List.foldl (fun a b => a ++ b) acc (List.replicate k #[x]) = acc ++ (List.replicate k x).toArray
  | 0, acc => by simp
  | k + 1, acc => by
    rw [List.replicate_succ, List.foldl_cons, foldl_replicate_one x k, List.replicate_succ]
    apply Array.ext'
    simp
theorem emod_fmod {i j : Int} (h : 0 < j) : i % j = i.fmod j := by rw [Int.fmod_eq_emod_of_nonneg _ (by omega)]
theorem ediv_fdiv {i j : Int} (h : 0 < j) : i / j = i.fdiv j := by rw [Int.fdiv_eq_ediv_of_nonneg _ (by omega)]
theorem mul_one_list (H : HS B R s) {l : Addr} {y : Value} {x : V} {ep : Nat} {j : Int} {t : Tok} (hl : IsL s.heap l (List.toArray [y]) ep) (h1 : RepV B.w R x y) (h0 : 0 ≤ j) (hz : j.toNat ≤ 16000000) :
    T B A (binaryOp .Mult (.ref l) (.int j t)) (GivesV B R (.own (.list (List.replicate j.toNat x)))) s := by
  have e2 : List.foldl (fun x1 x2 => x1 ++ x2) #[] (List.replicate (if (List.toArray [y]).isEmpty = true then 0 else j.toNat) (List.toArray [y])) = (List.replicate j.toNat y).toArray := by
    have := foldl_replicate_one y j.toNat #[]
    simpa using this
  have fin := give_list H (RepL.replicate h1 j.toNat) s.toks
  rw [← e2] at fin
  refine wpAny_binaryOp_repeat_ref (T := "list") (U := "int") (by decide) ⟨_, hl, rfl⟩ (fun s' => typeIs_int s' j t) noFill_list_mul F.fills_int_mul F.slot_int_rmul repeat_list F.slot_int_index.lookup
    (call_meets F.slot_int_rmul (typeIs_int s j t) F.entry_int_rmul (F.args_int_rmul_2 _ _) (int___rmul___int_list j t l _ ep) ⟨hl, rfl, ⟨_, hl, rfl⟩, ?_⟩)
  have c0 : ¬(!Builtin.List.listFitsIndex j) = true := by simp [Builtin.List.listFitsIndex]; omega
  have c1 : ¬(List.toArray [y]).size * j.toNat > (2 ^ 63 - 1) / 8 := by simp; omega
  have c2 : ¬Builtin.List.listTooLong ((List.toArray [y]).size * j.toNat) = true := by simp [Builtin.List.listTooLong, sizeLine]; omega
  exact call_meets F.slot_list_mul ⟨_, hl, rfl⟩ F.entry_list_mul (F.args_list_mul_2 _ _) (AutoListH.list___mul___list_int_3 l _ ep j t c0 c1 c2) ⟨hl, fin⟩
section
variable {a b : V} {u v : Value} (H : HS B R s) (ha : Seen B.w R s.heap a u) (hb : Seen B.w R s.heap b v)
include ha hb
theorem int2_sound {op : Operator} {f : Int → Int → Option Slot} (h : ∀ i j t t', Gv (fun sl => T B A (binaryOp op (.int i t) (.int j t')) (GivesV B R sl) s) (f i j)) : Gv (fun sl => T B A (binaryOp op u v) (GivesV B R sl) s) (int2 a b f) := .bind fun i hi => .bind fun j hj => by
  obtain ⟨t, rfl⟩ := ha.int hi
  obtain ⟨t', rfl⟩ := hb.int hj
  exact h i j t t'
include H
omit ha hb in
theorem give_int {i : Int} {t t' : Nat} : GivesV B R (.val (.int i)) (.int i t) { s with toks := t' } := give_val H (.int i t) t'
theorem addV_sound : Gv (fun sl => T B A (binaryOp .Add u v) (GivesV B R sl) s) (addV a b) := by
  cases a with
  | int i => exact int2_sound (op := .Add) (f := fun i j => num (i + j)) ha hb fun i j t t' => .some (add_int (give_int H))
  | str x =>
    refine .bind fun y hy => .mapG (.gdo fun hf => .some ?_)
    obtain ⟨t, rfl⟩ := ha.str rfl
    obtain ⟨t', rfl⟩ := hb.str hy
    exact add_str (fun t tk => give_val H (.str _ t) tk) (fits_line hf)
  | list xs =>
    refine .bind fun ys hy => .mapG (.gdo fun hf => .some ?_)
    obtain ⟨l, items, ep, rfl, hl, hr1⟩ := ha.list H rfl
    obtain ⟨l2, items2, ep2, rfl, hl2, hr2⟩ := hb.list H hy
    refine PySem.P.add_list hl hl2 ?_ ?_
    · rw [List.append_toArray]; exact give_list H (hr1.append hr2) s.toks
    · rw [List.size_toArray, List.size_toArray, hr1.length, hr2.length]; exact fits_line hf
  | _ => exact .none
theorem mulV_sound : Gv (fun sl => T B A (binaryOp .Mult u v) (GivesV B R sl) s) (mulV a b) := by
  cases a with
  | int i =>
    refine int2_sound (op := .Mult) (f := fun i j => gdo (Nat.blt i.natAbs (2 ^ 64) || Nat.blt j.natAbs (2 ^ 64)) (num (i * j))) ha hb fun i j t t' => .gdo fun hm => .some (mul_int (give_int H) ?_)
    exact (Bool.or_eq_true_iff.mp hm).elim (fun h => .of_left (intBits_le (Nat.blt_eq.mp h))) fun h => .of_right (intBits_le (Nat.blt_eq.mp h))
  | list xs =>
    refine .bind fun x hx => .bind fun j hj => .gdo fun h0 => .gdo fun hf => .some ?_
    obtain ⟨l, items, ep, rfl, hl, hr1⟩ := ha.list H rfl
    obtain ⟨t', rfl⟩ := hb.int hj
    cases one_inv hx
    obtain ⟨y, r, rfl, h1, h2⟩ := hr1.inv
    cases h2.nil_inv
    exact mul_one_list H hl h1 (of_decide_eq_true h0) (fits_size hf)
  | _ => exact .none
end
theorem binop_sound (H : HS B R s) {op : Operator} {a b : V} {u v : Value} (ha : RepV B.w R a u) (hb : RepV B.w R b v) : Gv (fun sl => T B A (binaryOp op u v) (GivesV B R sl) s) (binop op a b) := by
  have ha := Seen.of (h := s.heap) ha
  have hb := Seen.of (h := s.heap) hb
  cases op with
  | Add => exact addV_sound H ha hb
  | Mult => exact mulV_sound H ha hb
  | Sub => exact int2_sound ha hb fun i j t t' => .some (sub_int (give_int H))
  | Mod => exact int2_sound ha hb fun i j t t' => .gdo fun hp => .some (by
      have hp := of_decide_eq_true hp
      rw [emod_fmod hp]
      exact mod_int (Int.ne_of_gt hp) (give_int H))
  | FloorDiv => exact int2_sound ha hb fun i j t t' => .gdo fun hp => .gdo fun hq => .some (by
      have hp := of_decide_eq_true hp
      have hq := of_decide_eq_true hq
      rw [ediv_fdiv hp]
      exact floordiv_int (Int.ne_of_gt hp) (give_int H) (.inl (PyProof.noPylong_small (by omega))))
  | Pow => exact int2_sound ha hb fun i j t t' => .gdo fun hp => .gdo fun hq => .some (by
      cases of_decide_eq_true hp
      cases of_decide_eq_true hq
      exact pow_int_small (by decide) (by decide) (by decide) (give_int H))
  | _ => exact .none
end
end Mini
namespace Mini
open PyProof.Rows.LSm (BoolsAre range_all kept_iter)
section
variable {B : Bs} {R : RM} {s s' : Shared}
theorem HS.none_of (H : HS B R s) {a : Addr} (ha : s.heap.objs.size ≤ a) : R a = none := by
  cases h : R a with
  | none => rfl
  | some sp => exact absurd (H.lt h) (Nat.not_lt.mpr ha)
theorem HS.sm_of (H : HS B R s) {a : Addr} (ha : s.heap.objs.size ≤ a) : (a == sysModules) = false := by
  obtain ⟨b, o, hle, ho⟩ := B.sm
  have := Nat.lt_of_le_of_lt hle (Heap.lt_size (H.keep _ _ ho))
  exact beq_eq_false_iff_ne.mpr (Nat.ne_of_gt (Nat.lt_of_lt_of_le this ha))
theorem give_own_at (H : HS B R s) {h' : Heap} {tk : Nat} (hk : ∀ b o, s.heap.get? b = some o → h'.get? b = some o) {a : Addr} {o : Obj} {v : V} (ha : s.heap.objs.size ≤ a) (ho : h'.get? a = some o) (hr : RepO B.w R v o) : GivesV B R (.own v) (.ref a) { s with heap := h', toks := tk } := by
  have hn := H.none_of ha
  have le := le_upd_fresh (sp := .temp v) hn
  exact ⟨_, (H.kept (s' := { s with heap := h', toks := tk }) hk rfl rfl).add (sp := .temp v) hn ⟨o, ho, hr.mono le, H.sm_of ha⟩ (fun _ e => ns e) rfl, .upd hn rfl, a, rfl, upd_same .., hn⟩
theorem give_val_at (H : HS B R s) {h' : Heap} {tk : Nat} (hk : ∀ b o, s.heap.get? b = some o → h'.get? b = some o) {u : Value} {v : V} (h : RepV B.w R v u) : GivesV B R (.val v) u { s with heap := h', toks := tk } := ⟨R, H.kept hk rfl rfl, .refl _, h⟩
end
noncomputable def kIsi (K : Frag) : Bool := specialIn K (.builtin "object.__class__") "__get__" == some (some (.builtin "getset_descriptor.__get__")) && takesIn K (.builtin "object.__class__") == some true &&
  insts.all fun D => plainGet K D "__class__" && hasDictIn K D && findIn K (.ref D) "__class__" == some (some (.builtin "object.__class__")) && mroIn K D (.type "object") == some true && PySem.W.isIn K (.ref D) D &&
    isClasses.all fun C => D == C || kin_not K D C
theorem all_of {α : Type} {l : List α} {p : α → Bool} (h : l.all p = true) {x : α} (hx : x ∈ l) : p x = true := List.all_eq_true.mp h x hx
section
variable {B : Bs} {A : Around} {R : RM} {s : Shared} {n : Nat}
theorem DictObj.form {w : World} {K : Type} [DecidableEq K] {knd : KeyKind PW w K} {o : Obj} {kvs : List (K × Value)} (h : DictObj knd o kvs) : ∃ es ep, o = dictOf es ep := by
  obtain ⟨es, ep, ⟨e1, e2, e3⟩, e4, _⟩ := h
  exact ⟨es.toList, ep, by cases o; cases e1; cases e2; cases e3; cases e4; rfl⟩
inductive InstIs (B : Bs) (R : RM) (s : Shared) (C : Addr) (fs : List (Str × V)) : Value → Prop
  | mk (a d : Addr) (es : List DictEntry) (ep : Nat) (kvs' : List (Str × Value)) (I : PySem.W.InstAt s.heap a (instObj C d) C (some (dictOf es ep))) (h1 : DictObj (strKind PW B.w) (dictOf es ep) kvs') (h2 : fs.map (·.1) = kvs'.map (·.1)) (h3 : RepL B.w R (fs.map (·.2)) (kvs'.map (·.2))) : InstIs B R s C fs (.ref a)
theorem inst_at (H : HS B R s) {C : Addr} {fs : List (Str × V)} {u : Value} (h : Seen B.w R s.heap (.inst C fs) u) : InstIs B R s C fs u := by
  obtain ⟨a, o, rfl, ho, r, hz⟩ := h.obj H rfl
  obtain ⟨d, o', kvs', rfl, hd, h1, h2, h3⟩ := r.inv
  obtain ⟨es, ep, rfl⟩ := h1.form
  exact ⟨a, d, es, ep, kvs', ⟨ho, rfl, rfl, H.frozen hd⟩, h1, h2, h3⟩
theorem isinstance_sound (H : HS B R s) (hk : kIsi B.K = true) {D C : Addr} {fs : List (Str × V)} {u : Value} (h : Seen B.w R s.heap (.inst D fs) u) (hD : D ∈ insts) (hC : C ∈ isClasses) :
    T B A (call (.builtin "isinstance") [u, .ref C]) (GivesV B R (.val (.bool (D == C)))) s := by
  obtain ⟨a, d, es, ep, kvs', I, _⟩ := inst_at H h
  unfold kIsi at hk
  obtain ⟨hk, hk3⟩ := Bool.and_eq_true_iff.mp hk
  obtain ⟨hk1, hk2⟩ := Bool.and_eq_true_iff.mp hk
  have q := all_of hk3 hD
  simp only [Bool.and_eq_true] at q
  obtain ⟨⟨⟨⟨⟨q1, q2⟩, q3⟩, q4⟩, q5⟩, q6⟩ := q
  have q6 := all_of q6 hC
  by_cases e : D = C
  · subst e
    rw [beq_self_eq_true]
    exact isi_call H.K (fun M => I.type) q5 (by intro x; cases x) (give_val H (.bool _) s.toks)
  · have e' : (D == C) = false := beq_eq_false_iff_ne.mpr e
    rw [e', Bool.false_or] at q6
    rw [e']
    exact kin_callC H.K I q6 q1 q2 (beq_iff_eq.mp q3) (beq_iff_eq.mp hk1) (beq_iff_eq.mp hk2) (beq_iff_eq.mp q4) (give_val H (.bool _) _)
theorem allB_sound {w : World} {xs : List V} : ∀ {items : List Value}, RepL w R xs items → Gv (fun r => ∃ bs, BoolsAre items bs ∧ bs.all id = r) (allB xs) := by
  induction xs with
  | nil => intro items h; rw [h.nil_inv]; exact .some ⟨[], .nil, rfl⟩
  | cons v vs ih =>
    intro items h
    obtain ⟨u, r, rfl, h1, h2⟩ := h.inv
    refine .bind fun b hb => .map fun c hc => ?_
    rw [h1.bool_inv hb]
    exact (ih h2 c hc).elim fun bs h => ⟨b :: bs, .cons b h.1, congrArg (b && ·) h.2⟩
theorem all_sound (H : HS B R s) (rm : Room A n) {v : V} {xs : List V} {u : Value} {r : Bool} (e : allB xs = some r) (hx : Seen B.w R s.heap v u) (hv : v.list? = some xs) : T B A (call (.builtin "all") [u]) (GivesV B R (.val (.bool r))) s := by
  obtain ⟨l, items, ep, rfl, hl, hr⟩ := hx.list H hv
  obtain ⟨bs, hb, rfl⟩ := allB_sound hr r e
  have hlt : l < s.heap.objs.size := Heap.lt_size hl
  refine call_all_walk (wpAny_pyIter_list hl.isList ?_)
  refine ⟨s.heap.objs.size, [s.heap.objs.size, l], [s.heap.objs.size], items.toArray.size, _, _, fun i => (bs[i]?).getD true, rfl, Walks.list (A := A.in1) rm.hd _ l (Nat.ne_of_lt hlt) items.toArray,
    ⟨⟨_, Heap.get?_push_size _ rfl, rfl, rfl⟩, hl.isList.push _⟩, fun i v s' Q' E' hP hQ => ?_, fun h' tk hk => ?_⟩
  · obtain ⟨b, e, rfl⟩ := hb.get i v (by simpa using hP)
    simp only [e, Option.getD_some] at hQ
    exact wpAny_truthy_bool hQ
  · have e : ((List.range items.toArray.size).all fun i => (bs[i]?).getD true) = bs.all id := by
      rw [List.size_toArray, hb.length]; exact range_all bs
    rw [e]
    exact give_val_at H (kept_iter hk) (.bool _)
theorem strsOf_sound {w : World} {xs : List V} : ∀ {items : List Value}, RepL w R xs items → Gv (fun ts => ∃ l : List (Str × Tok), items = strValues l ∧ l.map (·.1) = ts) (strsOf xs) := by
  induction xs with
  | nil => intro items h; rw [h.nil_inv]; exact .some ⟨[], rfl, rfl⟩
  | cons v vs ih =>
    intro items h
    obtain ⟨u, r, rfl, h1, h2⟩ := h.inv
    refine .bind fun x hx => .map fun c hc => ?_
    obtain ⟨t, rfl⟩ := h1.str_inv hx
    obtain ⟨l, rfl, rfl⟩ := ih h2 c hc
    exact ⟨(x, t) :: l, rfl, rfl⟩
end
end Mini
section
open PySem.Spec
namespace Mini
noncomputable def leS (a b : Str) : Prop := a.cps.toList ≤ b.cps.toList
theorem leS_iff {a b : Str} : ltCps b.cps.toList a.cps.toList = false ↔ leS a b := by
  rw [ltCps_eq, decide_eq_false_iff_not]
  exact List.not_lt
theorem leS_trans {a b c : Str} (h : leS a b) (g : leS b c) : leS a c := List.le_trans h g
theorem leS_anti {a b : Str} (h : leS a b) (g : leS b a) : a = b := by
  obtain ⟨a⟩ := a
  obtain ⟨b⟩ := b
  congr 1
  exact Array.ext' (List.le_antisymm h g)
theorem ltL_eq : ∀ {a b : List Nat}, ltL a b = decide (a < b)
  | [], [] => rfl
  | [], _ :: _ => rfl
  | _ :: _, [] => rfl
  | a :: r, b :: q => by
    unfold ltL
    rw [ltL_eq]
    by_cases h : a = b
    · subst h; simp
    · rw [beq_eq_false_iff_ne.mpr h]
      simp [h, List.cons_lt_cons_iff]
      cases hh : Nat.blt a b with
      | true => simpa [Nat.blt_eq] using hh
      | false =>
        have : ¬ a < b := fun q => by rw [(Nat.blt_eq).mpr q] at hh; cases hh
        simp [this]
theorem rising_le : ∀ {l : List Str} {p : Str}, risingS p l = true → (∀ x ∈ l, leS p x) ∧ sortedS l = true
  | [], p, _ => ⟨(fun _ h => nomatch h), rfl⟩
  | x :: r, p, h => by
    unfold risingS at h
    simp only [Bool.and_eq_true, Bool.not_eq_true'] at h
    obtain ⟨h1, h2⟩ := rising_le h.2
    have h0 := leS_iff.mp h.1
    exact ⟨fun y hy => by
      rcases List.mem_cons.mp hy with rfl | hy
      · exact h0
      · exact leS_trans h0 (h1 y hy), h.2⟩
theorem rising_of {p : Str} {l : List Str} (h : ∀ x ∈ l, leS p x) (s : sortedS l = true) : risingS p l = true := by
  cases l with
  | nil => rfl
  | cons x r =>
    show (!ltCps x.cps.toList p.cps.toList && risingS x r) = true
    rw [leS_iff.mpr (h x List.mem_cons_self), show risingS x r = true from s]; rfl
theorem sorted_uniq : ∀ {a b : List Str}, a.Perm b → sortedS a = true → sortedS b = true → a = b
  | [], b, h, _, _ => by rw [List.nil_perm.mp h]
  | x :: r, [], h, _, _ => by have := List.perm_nil.mp h; cases this
  | x :: r, y :: q, h, h1, h2 => by
    obtain ⟨a1, a2⟩ := rising_le (p := x) (show risingS x r = true from h1)
    obtain ⟨b1, b2⟩ := rising_le (p := y) (show risingS y q = true from h2)
    have e : x = y := by
      rcases List.mem_cons.mp (h.mem_iff.mp (List.mem_cons_self : x ∈ x :: r)) with e | e
      · exact e
      · rcases List.mem_cons.mp (h.mem_iff.mpr (List.mem_cons_self : y ∈ y :: q)) with e' | e'
        · exact e'.symm
        · exact leS_anti (a1 _ e') (b1 _ e)
    subst e
    rw [sorted_uniq (List.Perm.cons_inv h) a2 b2]
theorem insS_perm {x : Str} : ∀ {l : List Str}, (insS x l).Perm (x :: l)
  | [] => .refl _
  | y :: r => by
    unfold insS
    split
    · exact .refl _
    · exact (List.Perm.cons y insS_perm).trans (List.Perm.swap x y r)
theorem insS_sorted {x : Str} : ∀ {l : List Str}, sortedS l = true → sortedS (insS x l) = true
  | [], _ => rfl
  | y :: r, h => by
    obtain ⟨a1, a2⟩ := rising_le (p := y) (show risingS y r = true from h)
    unfold insS
    split
    · rename_i e
      rw [ltL_eq, decide_eq_true_eq] at e
      refine rising_of (fun z hz => ?_) h
      have : leS x y := List.le_of_lt e
      rcases List.mem_cons.mp hz with rfl | hz
      · exact this
      · exact leS_trans this (a1 z hz)
    · rename_i e
      rw [ltL_eq, decide_eq_false_iff_not] at e
      have : leS y x := List.not_lt.mp e
      refine rising_of (fun z hz => ?_) (insS_sorted a2)
      rcases List.mem_cons.mp (insS_perm.mem_iff.mp hz) with rfl | hz
      · exact this
      · exact a1 z hz
theorem sortS_perm : ∀ {l : List Str}, (sortS l).Perm l
  | [] => .refl _
  | x :: r => insS_perm.trans (.cons x sortS_perm)
theorem sortS_sorted : ∀ {l : List Str}, sortedS (sortS l) = true
  | [] => rfl
  | x :: r => insS_sorted sortS_sorted
theorem strs_rep {w : World} {R : RM} : ∀ {vs : List Value} {ss : List Str}, StrsAre vs ss → RepL w R (ss.map .str) vs
  | _, _, .nil => .nil
  | _, _, .cons x t h => .cons _ _ _ _ (.str x t) (strs_rep h)
theorem strs_of {l : List Value} : ∀ {ks : List Str} {l : List Value}, l.length = ks.length → (∀ (j : Nat) (v : Value), l[j]? = some v → ∃ k t, ks[j]? = some k ∧ v = .str k t) → StrsAre l ks
  | [], [], _, _ => .nil
  | k :: ks, v :: l, e, h => by
    obtain ⟨k', t, e1, rfl⟩ := h 0 v rfl
    cases e1
    exact .cons k t (strs_of (l := l) (by simpa using e) fun j u hj => h (j + 1) u hj)
section
variable {B : Bs} {A : Around} {R : RM} {s : Shared} {n : Nat}
theorem give_own_new (H : HS B R s) {h' h₂ : Heap} {tk : Nat} (hk : ∀ b o, s.heap.get? b = some o → h'.get? b = some o) (hk₂ : ∀ b o, s.heap.get? b = some o → h₂.get? b = some o) {o : Obj} {v : V} {a : Addr} (ha : h'.objs.size ≤ a) (ho : h₂.get? a = some o) (hr : RepO B.w R v o) : GivesV B R (.own v) (.ref a) { s with heap := h₂, toks := tk } := by
  have lt : ∀ b q, s.heap.get? b = some q → b < a := fun b q e => Nat.lt_of_lt_of_le (Heap.lt_size (hk b q e)) ha
  have hn : R a = none := by
    cases h : R a with
    | none => rfl
    | some sp =>
      obtain ⟨q, hq⟩ := (H.holds _ _ h).some
      exact absurd (lt _ _ hq) (Nat.lt_irrefl _)
  have hz : (a == sysModules) = false := by
    obtain ⟨b, q, hle, hq⟩ := B.sm
    exact beq_eq_false_iff_ne.mpr (Nat.ne_of_gt (Nat.lt_of_le_of_lt hle (lt _ _ (H.keep _ _ hq))))
  have le := le_upd_fresh (sp := .temp v) hn
  exact ⟨_, (H.kept (s' := { s with heap := h₂, toks := tk }) hk₂ rfl rfl).add (sp := .temp v) hn ⟨o, ho, hr.mono le, hz⟩ (fun _ e => ns e) rfl, .upd hn rfl, a, rfl, upd_same .., hn⟩
theorem keyKind_two {vs : List Value} {ss : List Str} (hS : StrsAre vs ss) : ∀ v₁ v₂ rest, vs = v₁ :: v₂ :: rest → keyKind' (v₁ :: v₂ :: rest).toArray = pure oneType' := fun v₁ v₂ rest e => keyKind_strs (by rw [← e]; exact hS)
theorem sorted_sound (H : HS B R s) (rm : Room A n) {kvs : List (Str × V)} {u : Value} (hn : kvs.length ≤ 60) (hx : Seen B.w R s.heap (.dictS kvs) u) : T B A (call (.builtin "sorted") [u]) (GivesV B R (.own (.list ((sortS (kvs.map (·.1))).map .str)))) s := by
  obtain ⟨dd, kvs', rfl, hz, hd, hkk, hr⟩ := hx.dictS H rfl
  obtain ⟨ep, hat⟩ := hd.dictAt
  have hl : kvs'.length = kvs.length := by simpa using (congrArg List.length hkk).symm
  refine call_function_entry kind_sorted plain_sorted entry_sorted (args_sorted1 _) ?_
  unfold Builtin.«sorted»
  refine wpAny_bind (m := checkCount "sorted" 1 1 _) (wpAny_pure ?_)
  refine wpAny_bind (kdu_collect (A := A.in1) (kdl_dict hz) rm.hd hat (by rw [sizeLine_eq]; omega) fun h' tk acc hk hacc => ?_)
  have hlen : acc.toList.length = kvs'.length := by rw [Array.length_toList]; exact hacc.1
  refine wpAny_bind (wpAny_newList ?_ (by rw [hlen, sizeLine_eq]; omega))
  have hS : StrsAre acc.toList (kvs.map (·.1)) := strs_of (l := []) (by rw [hlen, hl, List.length_map]) fun j v hj => by
    rw [Array.getElem?_toList] at hj
    obtain ⟨k, x, h1, h2⟩ := hacc.2 j v hj
    refine ⟨k, ?_⟩
    obtain ⟨t, rfl⟩ := Value.isStrOf_shape h2
    exact ⟨t, by rw [hkk, List.getElem?_map, h1]; rfl, rfl⟩
  have hoL : (h'.push { cls := .type "list", data := .seq acc.toList.toArray }).get? h'.objs.size = some (seqObj "list" acc.toList.toArray 0) := Heap.get?_push_size _ rfl
  refine wpAny_bind (wpAny_holding (wpAny_call_entry slot_list_sort ⟨_, hoL, rfl⟩ entry_list_sort (list_sort_treeK strKind_oneLt hoL hS.keysOf (keyKind_two hS) (by omega) fun st' a1 a2 => ⟨_, rfl, ?_⟩) (args_list_sort _)))
  refine wpAny_pure ⟨_, rfl, ?_⟩
  obtain ⟨ss', h1, h2, h3⟩ := sorted_out_str hS a1 a2
  have e : ss' = sortS (kvs.map (·.1)) := sorted_uniq (h2.trans sortS_perm.symm) h3 sortS_sorted
  subst e
  obtain ⟨c, hc⟩ := sortedHeap_at (out := (arrOf st').map (·.2)) hoL
  refine give_own_new H hk (fun b o e => ?_) (Nat.le_refl _) hc ?_
  · have h1 := hk b o e
    have h2 := Heap.lt_size h1
    rw [sortedHeap_old (Nat.ne_of_lt h2) (by rw [size_push']; exact Nat.lt_succ_of_lt h2)]
    exact Heap.get?_push_of_some _ h1
  · have := strs_rep (w := B.w) (R := R) h1
    have q := RepO.list (w := B.w) (R := R) _ _ c this
    rw [Array.toArray_toList] at q
    exact q
end
end Mini
end
section
open PySem.Spec
namespace Mini
theorem args_sum2 (a b : Value) : argsOk "sum" ⟨[a, b], []⟩ := by unfold argsOk; kernel_rfl
theorem sub_list_str' : isSubtype (.type "list") (.type "str") = pure false := by rw [isSubtype_type]; kernel_rfl
theorem sub_list_bytes' : isSubtype (.type "list") (.type "bytes") = pure false := by rw [isSubtype_type]; kernel_rfl
theorem sub_list_bytearray' : isSubtype (.type "list") (.type "bytearray") = pure false := by rw [isSubtype_type]; kernel_rfl
section
variable {B : Bs} {A : Around} {R : RM} {s : Shared} {n : Nat}
noncomputable def Tot (B : Bs) (R : RM) (s : Shared) (h : Heap) (tv : Value) (acc : List V) : Prop := ∃ a items ep, tv = .ref a ∧ h.get? a = some { cls := .type "list", data := .seq (List.toArray items) ep } ∧ RepL B.w R acc items ∧ (RepV B.w R (.list acc) tv ∨ ∀ b q, s.heap.get? b = some q → b < a)
theorem Tot.keeps {h h' : Heap} {tv : Value} {acc : List V} (t : Tot B R s h tv acc) {S : Addr} (hS : ∀ b q, s.heap.get? b = some q → b ≠ S) (hk : ∀ b o, b ≠ S → h.get? b = some o → h'.get? b = some o) (hs : ∀ a items ep, tv = .ref a → h.get? a = some { cls := .type "list", data := .seq items ep } → a ≠ S) : Tot B R s h' tv acc := by
  obtain ⟨a, items, ep, rfl, h1, h2, h3⟩ := t
  exact ⟨a, items, ep, rfl, hk _ _ (hs _ _ _ rfl h1) h1, h2, h3⟩
theorem Tot.give (H : HS B R s) {h : Heap} {tk : Nat} {tv : Value} {acc : List V} (t : Tot B R s h tv acc) (hk : ∀ b o, s.heap.get? b = some o → h.get? b = some o) : GivesV B R (.val (.list acc)) tv { s with heap := h, toks := tk } := by
  obtain ⟨a, items, ep, rfl, h1, h2, h3⟩ := t
  rcases h3 with h3 | lt
  · exact give_val_at H hk h3
  · have hn : R a = none := by
      cases e : R a with
      | none => rfl
      | some sp =>
        obtain ⟨q, hq⟩ := (H.holds _ _ e).some
        exact absurd (lt _ _ hq) (Nat.lt_irrefl _)
    have hz : (a == sysModules) = false := by
      obtain ⟨b, q, hle, hq⟩ := B.sm
      exact beq_eq_false_iff_ne.mpr (Nat.ne_of_gt (Nat.lt_of_le_of_lt hle (lt _ _ (H.keep _ _ hq))))
    have le := le_upd_fresh (sp := .frozen { cls := .type "list", data := .seq (List.toArray items) ep }) hn
    exact ⟨_, (H.kept (s' := { s with heap := h, toks := tk }) hk rfl rfl).add (sp := .frozen { cls := .type "list", data := .seq (List.toArray items) ep }) hn h1 (fun _ e => ns e) rfl, .upd hn rfl, .obj _ _ _ hz (upd_same ..) (.list _ _ _ (h2.mono le))⟩
theorem drop_cons {α : Type} {l r : List α} {x : α} {i : Nat} (h : l.drop i = x :: r) : l[i]? = some x ∧ l.drop (i + 1) = r := by
  have h1 : (l.drop i)[0]? = some x := by rw [h]; rfl
  have h2 : (l.drop i).drop 1 = r := by rw [h]; rfl
  rw [List.getElem?_drop] at h1
  rw [List.drop_drop] at h2
  exact ⟨by simpa using h1, h2⟩
theorem sum_loop (H : HS B R s) {I S : Addr} {fp wr : List Addr} {items : List Value} {Pv : Nat → Value → Prop} {St : Nat → Heap → Prop} {r : List V} {Qr : Result → Shared → Prop} (hQ : ∀ u s', GivesV B R (.val (.list r)) u s' → Qr (.ok (.ret u)) s') (W : Walks PW B.w A.in1 I fp wr items.length Pv St) (hP : ∀ i v, Pv i v → items[i]? = some v)
    (hSf : S ∉ fp) (hSs : ∀ b q, s.heap.get? b = some q → b < S) (hwr : ∀ b q, s.heap.get? b = some q → b ∉ wr) (hfp : ∀ b ∈ fp, b < S) (hwS : ∀ b, S < b → b ∉ wr) :
    ∀ (k i : Nat) (h : Heap) (tk : Nat) (tv : Value) (c : Nat) (acc rest : List V), items.length - i = k → i ≤ items.length → RepL B.w R rest (items.drop i) → sumL rest acc = some r → St i h →
      h.get? S = some { cls := .type "list", dict := none, data := .seq #[tv] c, slots := #[] } → (∀ b o, s.heap.get? b = some o → h.get? b = some o) → Tot B R s h tv acc → (∀ a, tv = .ref a → a ≠ S ∧ a ∉ wr) → S < h.objs.size →
      codeAny (model PW B.w) A (.builtin "sum.loop" ⟨[.ref I, .ref S, rawInt 2, rawInt 0], []⟩) Qr { s with heap := h, toks := tk } := by
  have hSw : S ∉ wr := fun h => hSf (W.sub _ h)
  intro k
  induction k with
  | zero =>
    intro i h tk tv c acc rest hk hi hr hsum hst hS hkp ht hne hlt
    have hin : i = items.length := by omega
    subst hin
    rw [List.drop_length] at hr
    cases hr
    cases hsum
    refine codeAny_builtin F.entry_sum_loop ?_
    rw [Around.under_plainId F.plain_sum_loop _]
    show wpAny _ A.in1 (seqItems? (.ref S) >>= _) _ _ _
    refine wpAny_bind (wpAny_seqItems hS rfl ?_)
    show wpAny _ A.in1 (tryCatch (pyNext (.ref I)) _ >>= _) _ _ _
    refine wpAny_bind (wpAny_tryCatch (W.done _ _ _ hst fun h' tk' hk' => ?_))
    obtain ⟨a, its, ep, rfl, h1, h2, h3⟩ := ht
    exact wpAny_pure (hQ _ _ (Tot.give H (tk := tk') ⟨a, its, ep, rfl, hk' _ _ (hne a rfl).2 h1, h2, h3⟩ fun b o e => hk' b o (hwr b o e) (hkp b o e)))
  | succ k ih =>
    intro i h tk tv c acc rest hk hi hr hsum hst hS hkp ht hne hlt
    have hlt' : i < items.length := by omega
    obtain ⟨x, r', hx⟩ : ∃ x r', items.drop i = x :: r' := by
      cases e : items.drop i with
      | nil => have := List.drop_eq_nil_iff.mp e; omega
      | cons x r' => exact ⟨x, r', rfl⟩
    obtain ⟨e1, e2⟩ := drop_cons hx
    rw [hx] at hr
    cases rest with
    | nil => cases hr
    | cons v vs =>
    obtain ⟨_, _, e0, hv, hvs⟩ := hr.inv
    cases e0
    obtain ⟨xs, hxs, hsum⟩ := bnd (show (v.list?.bind fun xs => (addList acc xs).bind fun acc' => sumL vs acc') = some r from hsum)
    obtain ⟨acc', hadd, hsum⟩ := bnd hsum
    obtain ⟨hf, hadd⟩ := gdo_some hadd
    cases hadd
    obtain ⟨l, its2, ep2, rfl, hl, hr2⟩ := (Seen.of (h := s.heap) hv).list H hxs
    obtain ⟨a, its, ep, rfl, h1, h2, h3⟩ := ht
    refine codeAny_builtin F.entry_sum_loop ?_
    rw [Around.under_plainId F.plain_sum_loop _]
    show wpAny _ A.in1 (seqItems? (.ref S) >>= _) _ _ _
    refine wpAny_bind (wpAny_seqItems hS rfl ?_)
    show wpAny _ A.in1 (tryCatch (pyNext (.ref I)) _ >>= _) _ _ _
    refine wpAny_bind (wpAny_tryCatch (W.item i _ _ _ hlt' hst fun v' h' tk' hPv hst' hk' => ?_))
    have ev := hP i v' hPv
    rw [e1] at ev
    cases ev
    have hS' := hk' S _ hSw hS
    have h1' := hk' _ _ (hne a rfl).2 h1
    have hl' : h'.get? l = some { cls := .type "list", data := .seq (List.toArray its2) ep2 } := hk' _ _ (hwr _ _ hl) (hkp _ _ hl)
    show wpAny _ A.in1 ((holding [Value.ref l] (binaryOp .Add (.ref a) (.ref l))).attempt >>= _) _ _ _
    refine wpAny_bind (wpAny_attempt (wpAny_holding (P.add_list (s := { s with heap := h', toks := tk' }) h1' hl' ?_ (by have := fits_line hf; simpa [h2.length, hr2.length] using this))))
    have hSz : S < h'.objs.size := Heap.lt_size hS'
    have hS₁ := Heap.get?_push_of_some { cls := .type "list", data := .seq (List.toArray its ++ List.toArray its2) } hS'
    show wpAny _ A.in1 (updateSeq S (fun _ => #[.ref h'.objs.size]) >>= _) _ _ _
    refine wpAny_bind (wpAny_updateSeq hS₁ rfl ?_)
    have hS₂ := Heap.get?_update_self (Obj.mapSeq fun _ => #[Value.ref h'.objs.size]) hS₁ rfl
    refine wpAny_bind (wpAny_letGo ?_)
    have kp : ∀ b o, b ≠ S → h'.get? b = some o → (((h'.push { cls := .type "list", data := .seq (List.toArray its ++ List.toArray its2) }).update S (Obj.mapSeq fun _ => #[Value.ref h'.objs.size])).update S (Obj.mapSeq fun _ => #[Value.ref h'.objs.size])).get? b = some o := fun b o hb e =>
      (Heap.get?_update_other _ _ (Ne.symm hb)).trans ((Heap.get?_update_other _ _ (Ne.symm hb)).trans (Heap.get?_push_of_some _ e))
    refine wpAny_bind (wpAny_updateSeq hS₂ rfl (wpAny_pure ⟨plainId_quiet F.plain_sum_loop _, ih (i + 1) _ tk' (.ref h'.objs.size) _ (acc ++ xs) vs (by omega) hlt' (by rw [e2]; exact hvs) hsum (W.frame _ _ _ hst' fun b hb o e => kp b o (fun h : b = S => hSf (by rw [← h]; exact hb)) e)
      (Heap.get?_update_self _ hS₂ rfl) (fun b o e => kp b o (Nat.ne_of_lt (hSs b o e)) (hk' _ _ (hwr b o e) (hkp b o e))) ⟨_, its ++ its2, 0, rfl, ?_, h2.append hr2, .inr fun b q e => Heap.lt_size (hk' _ _ (hwr b q e) (hkp b q e))⟩ (fun a' e => by cases e; exact ⟨Nat.ne_of_gt hSz, hwS _ hSz⟩) ?_⟩))
    · have : (h'.push { cls := .type "list", data := .seq (List.toArray its ++ List.toArray its2) }).get? h'.objs.size = some { cls := .type "list", data := .seq (List.toArray its ++ List.toArray its2) } := Heap.get?_push_size _ rfl
      have q := (Heap.get?_update_other _ (Obj.mapSeq fun _ => #[Value.ref h'.objs.size]) (Nat.ne_of_lt hSz)).trans ((Heap.get?_update_other _ (Obj.mapSeq fun _ => #[Value.ref h'.objs.size]) (Nat.ne_of_lt hSz)).trans this)
      exact q.trans (by rw [List.append_toArray])
    · rw [Heap.size_update, Heap.size_update]; refine Nat.lt_of_lt_of_le hSz ?_; show h'.objs.size ≤ (h'.push _).objs.size; rw [Heap.size_push]; exact Nat.le_succ _
theorem sum_sound (H : HS B R s) (rm : Room A n) {xs r : List V} {u v : Value} (hf : fits xs.length = true) (e : sumL xs [] = some r) (hx : Seen B.w R s.heap (.list xs) u) (hv : RepV B.w R (.list []) v) : T B A (call (.builtin "sum") [u, v]) (GivesV B R (.val (.list r))) s := by
  obtain ⟨l, items, ep, rfl, hl, hr⟩ := hx.list H rfl
  obtain ⟨a, its, ep2, rfl, ha, hr2⟩ := (Seen.of (h := s.heap) hv).list H rfl
  refine call_function_tree F.kind_sum F.plain_sum F.entry_sum (args_sum2 _ _) ?_
  unfold Builtin.«sum»
  simp only [List.length_cons, List.length_nil]
  rw [if_neg (by decide)]
  refine wpAny_bind (wpAny_of_eq (show Builtin.Builtins.bindParams "sum" ["start"] 0 ⟨[.ref a], []⟩ = pure [some (.ref a)] from rfl) ?_)
  refine wpAny_bind (wpAny_pyIter_list hl.isList ?_)
  have hlt : l < s.heap.objs.size := Heap.lt_size hl
  have ha' : a < s.heap.objs.size := Heap.lt_size ha
  refine wpAny_bind (wpAny_pure ?_)
  have hT : ({ s with heap := s.heap.push { cls := .type "list_iterator", data := .fields #[.ref l, .int 0 0] } } : Shared).TypeIs (.ref a) "list" := ⟨_, Heap.get?_push_of_some _ ha, rfl⟩
  simp only [List.forIn_cons, List.forIn_nil]
  refine wpAny_bind (wpAny_bind (wpAny_bind (wpAny_isInstance (T := "list") (b := false) hT sub_list_str' ?_)))
  simp only [Bool.false_eq_true, if_false]
  refine wpAny_pure (wpAny_bind (wpAny_bind (wpAny_isInstance (T := "list") (b := false) hT sub_list_bytes' ?_)))
  simp only [Bool.false_eq_true, if_false]
  refine wpAny_pure (wpAny_bind (wpAny_bind (wpAny_isInstance (T := "list") (b := false) hT sub_list_bytearray' ?_)))
  simp only [Bool.false_eq_true, if_false]
  refine wpAny_pure (wpAny_pure ?_)
  refine wpAny_bind (wpAny_newObj_type ?_)
  have hz : (s.heap.push { cls := .type "list_iterator", data := .fields #[.ref l, .int 0 0] }).objs.size = s.heap.objs.size + 1 := Heap.size_push ..
  have W := Walks.list (prog := PW) (w := B.w) (A := A.in1) rm.hd s.heap.objs.size l (Nat.ne_of_lt hlt) (List.toArray items)
  have lt : ∀ b q, s.heap.get? b = some q → b < s.heap.objs.size := fun b q e => Heap.lt_size e
  rw [show (List.toArray items).size = items.length from List.size_toArray ..] at W
  refine wpAny_pure ⟨plainId_quiet F.plain_sum_loop _, ?_⟩
  have hS : ((s.heap.push { cls := .type "list_iterator", data := .fields #[.ref l, .int 0 0] }).push { cls := .type "list", data := .seq #[.ref a] }).get? (s.heap.objs.size + 1) = some { cls := .type "list", dict := none, data := .seq #[.ref a] 0, slots := #[] } := by rw [← hz]; exact Heap.get?_push_size _ rfl
  have k1 : ∀ b o, s.heap.get? b = some o → ((s.heap.push { cls := .type "list_iterator", data := .fields #[.ref l, .int 0 0] }).push { cls := .type "list", data := .seq #[.ref a] }).get? b = some o := fun b o e => Heap.get?_push_of_some _ (Heap.get?_push_of_some _ e)
  have key := sum_loop (A := A) H (r := r) (Qr := fun r_1 s' => match r_1 with | .ok (.ret v) => GivesV B R (.val (.list r)) v s' | .ok _ => False | .error _ => False) (fun u s' g => g) W (fun i v h => by simpa using h) (S := s.heap.objs.size + 1)
    (fun h => by rcases List.mem_cons.mp h with h | h; exact Nat.succ_ne_self _ h; have h := List.mem_singleton.mp h; rw [← h] at hlt; exact Nat.not_succ_lt_self hlt) (fun b q e => Nat.lt_succ_of_lt (lt b q e)) (fun b q e h => absurd (lt b q e) (by rw [List.mem_singleton.mp h]; exact Nat.lt_irrefl _)) (fun b h => by rcases List.mem_cons.mp h with h | h; rw [h]; exact Nat.lt_succ_self _; rw [List.mem_singleton.mp h]; exact Nat.lt_succ_of_lt hlt)
    (fun b h hm => by rw [List.mem_singleton.mp hm] at h; exact Nat.not_succ_lt_self h) items.length 0 _ s.toks (.ref a) 0 [] xs rfl (Nat.zero_le _) hr e ⟨?_, ?_⟩ hS k1 ⟨a, its, ep2, rfl, k1 _ _ ha, hr2, .inl hv⟩ (fun a' e => by cases e; exact ⟨Nat.ne_of_lt (Nat.lt_succ_of_lt ha'), fun hm => by rw [List.mem_singleton.mp hm] at ha'; exact Nat.lt_irrefl _ ha'⟩) (Heap.lt_size hS)
  · rw [← hz] at key
    exact key
  · exact ⟨_, Heap.get?_push_of_some _ (Heap.get?_push_size _ rfl), rfl, rfl⟩
  · exact hl.isList.push _ |>.push _
end
end Mini
end
namespace Mini
theorem stored_cons {K : Type} [DecidableEq K] (y : K) (x : Value) (r : List (K × Value)) (k : K) (v : Value) (hn : (((y, x) :: r).map (·.1)).Nodup) :
    stored ((y, x) :: r) k v = if y = k then (y, v) :: r else (y, x) :: stored r k v := by
  unfold stored
  by_cases h : y = k
  · subst h
    have hy : y ∉ r.map (·.1) := (List.nodup_cons.mp hn).1
    simp only [List.any_cons, decide_true, Bool.true_or, if_true, List.map_cons]
    rw [map_store_of_not_mem r y v hy]
  · simp only [List.any_cons, decide_eq_false h, Bool.false_or, if_neg h, List.map_cons]
    split <;> rfl
theorem put_yes {K : Type} [BEq K] {k : K} {v : V} {p : K × V} {r : List (K × V)} (h : (p.1 == k) = true) : put k v (p :: r) = (p.1, v) :: r := by unfold put; rw [h]
theorem put_no {K : Type} [BEq K] {k : K} {v : V} {p : K × V} {r : List (K × V)} (h : (p.1 == k) = false) : put k v (p :: r) = p :: put k v r := by
  show (match p.1 == k with | true => (p.1, v) :: r | false => (p.1, p.2) :: put k v r) = _
  rw [h]
theorem put_rep {w : World} {R : RM} {K : Type} [DecidableEq K] (k : K) {v : V} {x : Value} (hv : RepV w R v x) {kvs : List (K × V)} : ∀ {kvs' : List (K × Value)}, (kvs'.map (·.1)).Nodup → kvs.map (·.1) = kvs'.map (·.1) → RepL w R (kvs.map (·.2)) (kvs'.map (·.2)) →
    (put k v kvs).map (·.1) = (stored kvs' k x).map (·.1) ∧ RepL w R ((put k v kvs).map (·.2)) ((stored kvs' k x).map (·.2)) := by
  induction kvs with
  | nil => intro kvs' _ h _; rw [List.map_eq_nil_iff.mp h.symm]; exact ⟨rfl, .cons _ _ _ _ hv .nil⟩
  | cons p r ih =>
    intro kvs' hn h q
    cases kvs' with
    | nil => exact nomatch h
    | cons p' r' =>
    obtain ⟨h0, h⟩ := List.cons.inj h
    replace h0 : p.1 = p'.1 := h0
    obtain ⟨u, us, e, q1, q2⟩ := q.inv
    obtain ⟨rfl, rfl⟩ := List.cons.inj e
    rw [stored_cons p'.1 p'.2 r' k x hn]
    cases hk : p.1 == k with
    | true =>
      rw [if_pos (h0 ▸ beq_iff_eq.mp hk), put_yes hk]
      exact ⟨congr (congrArg _ h0) h, .cons _ _ _ _ hv q2⟩
    | false =>
      rw [if_neg (h0 ▸ beq_eq_false_iff_ne.mp hk), put_no hk]
      obtain ⟨p1, p2⟩ := ih (List.nodup_cons.mp hn).2 h q2
      exact ⟨congr (congrArg _ h0) p1, .cons _ _ _ _ q1 p2⟩
noncomputable def DictHas (w : World) (R : RM) (h : Heap) (a : Addr) (kvs : List (Str × V)) : Prop := ∃ kvs', h.DictOf (strKind PW w) a kvs' ∧ kvs.map (·.1) = kvs'.map (·.1) ∧ RepL w R (kvs.map (·.2)) (kvs'.map (·.2))
theorem DictHas.obj {w : World} {R : RM} {h : Heap} {a : Addr} {kvs : List (Str × V)} (x : DictHas w R h a kvs) : ∃ o, h.get? a = some o ∧ RepO w R (.dictS kvs) o := by
  obtain ⟨kvs', hd, hk, hr⟩ := x
  obtain ⟨o, ho, hdo⟩ := dictOf_iff.mp hd
  exact ⟨o, ho, .dictS _ _ _ hdo hk hr⟩
theorem DictHas.of {w : World} {R : RM} {h : Heap} {a : Addr} {o : Obj} {kvs : List (Str × V)} (ho : h.get? a = some o) (r : RepO w R (.dictS kvs) o) : DictHas w R h a kvs := r.inv.elim fun kvs' q => ⟨kvs', dictOf_iff.mpr ⟨o, ho, q.1⟩, q.2⟩
theorem dictOf_nodup {w : World} {K : Type} [DecidableEq K] {knd : KeyKind PW w K} {h : Heap} {a : Addr} {kvs : List (K × Value)} (hd : h.DictOf knd a kvs) : (kvs.map (·.1)).Nodup := let ⟨_, _, _, _, _, _, _, _, hn⟩ := hd; hn
theorem dict_new {w : World} {R : RM} (h : Heap) : RepO w R (.dictS []) ({ cls := .type "dict", data := .dict #[] } : Obj) := by
  obtain ⟨o, ho, hr⟩ := DictHas.obj (w := w) (R := R) (kvs := []) ⟨[], Heap.DictOf.new h, rfl, .nil⟩
  rw [Heap.get?_push_size _ rfl] at ho
  cases ho
  exact hr
end Mini
section
open PySem.Spec
namespace Mini
theorem no_keys : typeLookup (.type "list") (Str.ofString "keys") = pure none := am_miss_of_fast (by kernel_rfl)
theorem keys_no : (["__module__", "__name__", "__qualname__", "__doc__", "__annotations__"] : List Str).contains (Str.ofString "keys") = false := by decide +kernel
section
variable {B : Bs} {A : Around} {R : RM} {s : Shared} {n : Nat}
theorem keys_miss {prog : Program} {w : World} {E : Value → Shared → Prop} {a : Addr} {xs : Array Value} {k : Nat} {Q : Option Value → Shared → Prop} (hx : IsL s.heap a xs k) (hA : A.handled = none)
    (h : ∀ h' tk, (∀ b o, s.heap.get? b = some o → h'.get? b = some o) → Q none { s with heap := h', toks := tk }) : wpAny (model prog w) A (getAttr? (.ref a) "keys") Q E s := by
  obtain ⟨hp, g, d, tk, os⟩ := s
  have hx : hp.get? a = some { cls := .type "list", dict := none, data := .seq xs k, slots := #[] } := hx
  have hT : ∀ tk', (⟨hp, g, d, tk', os⟩ : Shared).TypeIs (.ref a) "list" := fun _ => ⟨_, hx, rfl⟩
  have f1 := sub_AttributeError
  have f3 := F.slot_list_getattribute.lookup
  have f4 := F.slot_list_getattribute.bind (.ref a)
  have f5 := am_list_getattr_none
  unfold getAttr? getAttrBy? getAttrBy
  repeat (any_goals (first | assumption | exact hT _ | ((with_reducible show wpAny _ _ (call (Value.builtin "list.__getattribute__") _) _ _ _); refine call_meets F.slot_list_getattribute (hT _) am_entry_list_getattribute (F.args_list_getattribute_2 _ _) (meets_getattribute_miss_list a xs k #[] _ _ no_keys keys_no) ⟨hx, hA, fun h' tk' e hx' => ?_⟩) | wp_step))
  obtain ⟨t', u', he⟩ := hx'.there
  show wpAny _ _ (getattributeRaised _ _ _ _ _ _ _) _ _ _
  unfold getattributeRaised
  repeat (any_goals (first | assumption | wp_step))
  exact h _ _ hx'.keeps
theorem addKeywords_nil {prog : Program} {w : World} {E : Value → Shared → Prop} {Q : Unit → Shared → Prop} {d : Addr} (h : Q () s) : wpAny (model prog w) A (Builtin.Dict.addKeywords d []) Q E s := wpAny_pure h
theorem plain_dict_loop : plainId "dict.update.loop" = true := by decide +kernel
theorem entry_dict_loop : entryFor table "dict.update.loop" = some Builtin.«dict.update.loop» := entryFor_of_fast (by kernel_rfl)
theorem pairsS_cons {v : V} {vs : List V} {acc r : List (Str × V)} (h : pairsS (v :: vs) acc = some r) : ∃ kv ky vy, v.tuple? = some [kv, vy] ∧ kv.str? = some ky ∧ pairsS vs (put ky vy acc) = some r := by
  obtain ⟨xs, h1, h⟩ := bnd (show (v.tuple?.bind fun xs => (two? xs).bind fun q => q.1.str?.bind fun k => pairsS vs (put k q.2 acc)) = some r from h)
  obtain ⟨q, h2, h⟩ := bnd h
  obtain ⟨ky, h3, h⟩ := bnd h
  exact ⟨q.1, ky, q.2, by rw [h1, two_inv h2], h3, h⟩
theorem put_le (ky : Str) (vy : V) (l : List (Str × V)) : (put ky vy l).length ≤ l.length + 1 := by
  induction l with
  | nil => exact Nat.le_refl _
  | cons p r ih =>
    cases h : p.1 == ky with
    | true => rw [put_yes h]; exact Nat.le_succ _
    | false => rw [put_no h]; exact Nat.succ_le_succ ih
theorem dict_loop (H : HS B R s) {I d : Addr} {fp wr : List Addr} {items : List Value} {Pv : Nat → Value → Prop} {St : Nat → Heap → Prop} {r : List (Str × V)} {Qr : Result → Shared → Prop} (hn : items.length ≤ 16000000)
    (hQ : ∀ h tk o, h.get? d = some o → RepO B.w R (.dictS r) o → (∀ b o, s.heap.get? b = some o → h.get? b = some o) → Qr (.ok (.ret .none)) { s with heap := h, toks := tk }) (W : Walks PW B.w A.in1 I fp wr items.length Pv St) (hP : ∀ i v, Pv i v → items[i]? = some v)
    (hSf : d ∉ fp) (hSs : ∀ b q, s.heap.get? b = some q → b ≠ d) (hwr : ∀ b q, s.heap.get? b = some q → b ∉ wr) :
    ∀ (k i : Nat) (h : Heap) (tk : Nat) (acc : List (Str × V)) (rest : List V) (o : Obj), items.length - i = k → i ≤ items.length → RepL B.w R rest (items.drop i) → pairsS rest acc = some r → St i h →
      h.get? d = some o → RepO B.w R (.dictS acc) o → acc.length ≤ i → (∀ b o, s.heap.get? b = some o → h.get? b = some o) →
      codeAny (model PW B.w) A (.builtin "dict.update.loop" ⟨[.ref d, .ref I, rawInt i, .none], []⟩) Qr { s with heap := h, toks := tk } := by
  have hSw : d ∉ wr := fun h => hSf (W.sub _ h)
  intro k
  induction k with
  | zero =>
    intro i h tk acc rest o hk hi hr hsum hst hS ho hle hkp
    have hin : i = items.length := by omega
    subst hin
    rw [List.drop_length] at hr
    cases hr
    cases hsum
    refine codeAny_builtin entry_dict_loop ?_
    rw [Around.under_plainId plain_dict_loop _]
    show wpAny _ A.in1 (pyNext (.ref I) >>= _) _ _ _
    refine wpAny_bind (W.done _ _ _ hst fun h' tk' hk' => ?_)
    refine wpAny_bind (addKeywords_nil ?_)
    exact wpAny_pure (hQ _ _ _ (hk' _ _ hSw hS) ho fun b o e => hk' b o (hwr b o e) (hkp b o e))
  | succ k ih =>
    intro i h tk acc rest o hk hi hr hsum hst hS ho hle hkp
    have hlt' : i < items.length := by omega
    obtain ⟨x, r', hx⟩ : ∃ x r', items.drop i = x :: r' := by
      cases e : items.drop i with
      | nil => have := List.drop_eq_nil_iff.mp e; omega
      | cons x r' => exact ⟨x, r', rfl⟩
    obtain ⟨e1, e2⟩ := drop_cons hx
    rw [hx] at hr
    cases rest with
    | nil => cases hr
    | cons v vs =>
        obtain ⟨_, _, e0, hv, hvs⟩ := hr.inv
        cases e0
        obtain ⟨kv, ky, vy, hv0, hky, hsum⟩ := pairsS_cons hsum
        obtain ⟨t, its, rfl, ht, hr2⟩ := (Seen.of (h := s.heap) hv).tuple H hv0
        obtain ⟨ku, _, rfl, hk1, hr3⟩ := hr2.inv
        obtain ⟨vu, _, rfl, hv1, hr4⟩ := hr3.inv
        cases hr4.nil_inv
        obtain ⟨tky, rfl⟩ := hk1.str_inv hky
        refine codeAny_builtin entry_dict_loop ?_
        rw [Around.under_plainId plain_dict_loop _]
        show wpAny _ A.in1 (pyNext (.ref I) >>= _) _ _ _
        refine wpAny_bind (W.item i _ _ _ hlt' hst fun v' h' tk' hPv hst' hk' => ?_)
        have ev := hP i v' hPv
        rw [e1] at ev
        cases ev
        obtain ⟨ot, hot, hct, nt, hdt⟩ := ht
        have hot' := hk' _ _ (hwr _ _ hot) (hkp _ _ hot)
        have hS' := hk' _ _ hSw hS
        show wpAny _ A.in1 ((holding [Value.ref t] _) >>= _) _ _ _
        refine wpAny_bind (wpAny_holding (wpAny_bind (wpAny_tryCatch ?_)))
        unfold Builtin.Dict.pairItems
        refine wpAny_bind (wpAny_typeOf (T := "tuple") ⟨_, hot', hct⟩ ?_)
        rw [if_pos (by decide)]
        refine wpAny_bind (wpAny_seqItems hot' hdt ?_)
        refine wpAny_pure ?_
        refine wpAny_holding ?_
        obtain ⟨kvs', h1, h2, h3⟩ := ho.inv
        have hd : h'.DictOf (strKind PW B.w) d kvs' := dictOf_iff.mpr ⟨_, hS', h1⟩
        have hlen : kvs'.length = acc.length := by simpa using (congrArg List.length h2).symm
        refine wpAny_dictSet_pairs (s := { s with heap := h', toks := tk' }) (k := ky) (knd := strKind PW B.w) (strKind_is PW B.w ky tky) hd (fun h'' hd' hs => ?_) (by rw [sizeLine_eq]; omega)
        obtain ⟨o', ho', hdo⟩ := dictOf_iff.mp hd'
        obtain ⟨p1, p2⟩ := put_rep ky hv1 (dictOf_nodup hd) h2 h3
        refine wpAny_pure ⟨plainId_quiet plain_dict_loop _, ih (i + 1) _ _ (put ky vy acc) _ o' (by omega) hlt' (by rw [e2]; exact hvs) hsum (W.frame _ _ _ hst' fun b hb o e => (hs.2 b (fun h : b = d => hSf (by rw [← h]; exact hb))).trans e) ho' (.dictS _ _ _ hdo p1 p2) ?_ fun b o e => (hs.2 b (hSs b o e)).trans (hk' _ _ (hwr b o e) (hkp b o e))⟩
        exact Nat.le_trans (put_le ky vy acc) (Nat.succ_le_succ hle)
theorem pairs_sound (H : HS B R s) (rm : Room A n) {xs : List V} {r : List (Str × V)} {u : Value} (hf : fits xs.length = true) (e : pairsS xs [] = some r) (hx : Seen B.w R s.heap (.list xs) u) : T B A (call (.type "dict") [u]) (GivesV B R (.own (.dictS r))) s := by
  obtain ⟨l, items, ep, rfl, hl, hr⟩ := hx.list H rfl
  have hlt : l < s.heap.objs.size := Heap.lt_size hl
  refine callType_codes (Q₁ := fun obj s₁ => obj = .ref s.heap.objs.size ∧ s₁ = { s with heap := s.heap.push { cls := .type "dict", data := .dict #[] } }) F.kt_called_dict (F.kt_typeCall_dict_1 _) F.entry_dict_init (kt_code_dict_new _ ⟨rfl, rfl⟩) ?_
  rintro obj s₁ ⟨rfl, rfl⟩
  have hnew : (s.heap.push { cls := .type "dict", data := .dict #[] }).DictOf (strKind PW B.w) s.heap.objs.size [] := Heap.DictOf.new s.heap
  have hl1 : IsL (s.heap.push { cls := .type "dict", data := .dict #[] }) l items.toArray ep := Heap.get?_push_of_some _ hl
  refine ⟨hnew.typeIs, F.args_dict_init_2 _ _, ?_⟩
  unfold Builtin.«dict.__init__»
  refine wpAny_bind ?_
  unfold Builtin.Dict.selfAndRest
  refine wpAny_bind (wpAny_notOrdered_dict hnew.typeIs ?_)
  show wpAny _ _ (pure (s.heap.objs.size, [Value.ref l])) _ _ _
  refine wpAny_pure ?_
  show wpAny _ _ (Builtin.Dict.updateFrom "dict.__init__" s.heap.objs.size (.ref l) [] .none) _ _ _
  unfold Builtin.Dict.updateFrom
  refine wpAny_bind (wpAny_typeOf (T := "list") ⟨_, hl1, rfl⟩ ?_)
  rw [if_pos (by decide)]
  refine wpAny_bind (keys_miss hl1 rm.hd fun h' tk hk => ?_)
  show wpAny _ _ (pyIter (.ref l) >>= _) _ _ _
  have hl2 : IsL h' l items.toArray ep := hk _ _ hl1
  refine wpAny_bind (wpAny_pyIter_list (s := { s with heap := h', toks := tk }) hl2.isList ?_)
  have hd1 : (s.heap.push { cls := .type "dict", data := .dict #[] }).get? s.heap.objs.size = some { cls := .type "dict", data := .dict #[] } := Heap.get?_push_size _ rfl
  have hd2 := hk _ _ hd1
  have hlt2 : l < h'.objs.size := Heap.lt_size hl2
  have hdl : s.heap.objs.size < h'.objs.size := Heap.lt_size hd2
  have k0 : ∀ b o, s.heap.get? b = some o → h'.get? b = some o := fun b o e => hk b o (Heap.get?_push_of_some _ e)
  have W := Walks.list (prog := PW) (w := B.w) (A := A.in1.in1) rm.hd h'.objs.size l (Nat.ne_of_lt hlt2) (List.toArray items)
  rw [show (List.toArray items).size = items.length from List.size_toArray ..] at W
  have hn : items.length ≤ 16000000 := by rw [hr.length]; exact fits_size hf
  refine wpAny_pure ⟨plainId_quiet plain_dict_loop _, ?_⟩
  refine dict_loop (A := A.in1) H (r := r) hn (fun h tk o ho hro hkp => ?_) W (fun i v h => by simpa using h) (d := s.heap.objs.size) (fun h => by
    rcases List.mem_cons.mp h with h | h
    · exact Nat.ne_of_lt hdl h
    · exact Nat.ne_of_gt hlt (List.mem_singleton.mp h)) (fun b q e => Nat.ne_of_lt (Heap.lt_size e)) (fun b q e h => absurd (Heap.lt_size (k0 b q e)) (by rw [List.mem_singleton.mp h]; exact Nat.lt_irrefl _)) items.length 0 _ tk [] xs { cls := .type "dict", data := .dict #[] } rfl (Nat.zero_le _) hr e ⟨⟨_, Heap.get?_push_size _ rfl, rfl, rfl⟩, hl2.isList.push _⟩ (Heap.get?_push_of_some _ hd2) (dict_new s.heap) (Nat.le_refl _) fun b o e => Heap.get?_push_of_some _ (k0 b o e)
  exact ⟨rfl, give_own_new H (h' := s.heap) (fun b o e => e) hkp (Nat.le_refl _) ho hro⟩
end
end Mini
end
namespace Mini
open PyProof.Rows.LSm (BoolsAre range_all kept_iter)
theorem RepL.one {w : World} {R : RM} {vs : List V} {us : List Value} {v : V} (h : RepL w R vs us) (e : one? vs = some v) : ∃ u, us = [u] ∧ RepV w R v u := by
  rw [one_inv e] at h
  obtain ⟨u, r, rfl, h1, h2⟩ := h.inv
  rw [h2.nil_inv]
  exact ⟨u, rfl, h1⟩
theorem RepL.two {w : World} {R : RM} {vs : List V} {us : List Value} {p : V × V} (h : RepL w R vs us) (e : two? vs = some p) : ∃ u v, us = [u, v] ∧ RepV w R p.1 u ∧ RepV w R p.2 v := by
  rw [two_inv e] at h
  obtain ⟨u, r, rfl, h1, h⟩ := h.inv
  obtain ⟨v, r, rfl, h2, h⟩ := h.inv
  rw [h.nil_inv]
  exact ⟨u, v, rfl, h1, h2⟩
noncomputable def AllFrom {α : Type} (P : Nat → α → Prop) : Nat → List α → Prop
  | _, [] => True
  | i, a :: r => P i a ∧ AllFrom P (i + 1) r
theorem AllFrom.cons {α : Type} {P : Nat → α → Prop} {i : Nat} {a : α} {r : List α} (h : P i a) (t : AllFrom P (i + 1) r) : AllFrom P i (a :: r) := ⟨h, t⟩
theorem AllFrom.get {α : Type} {P : Nat → α → Prop} {l : List α} : ∀ {i n : Nat} {a : α}, AllFrom P i l → l[n]? = some a → P (i + n) a := by
  induction l with
  | nil => intro i n a _ e; exact ns e
  | cons b r ih =>
    intro i n a h e
    cases n with
    | zero => exact Option.some.inj e ▸ h.1
    | succ n => rw [Nat.add_succ, ← Nat.succ_add]; exact ih h.2 e
section
variable {B : Bs} {A : Around} {R : RM} {s : Shared} {n : Nat}
noncomputable def Prim (B : Bs) (A : Around) (R : RM) (s : Shared) (k : Nat) (f : List V → Option Slot) : Prop := ∀ vs us, RepL B.w R vs us → Gv (fun sl => T B A (call (primVal k) us) (GivesV B R sl) s) (f vs)
section
variable (H : HS B R s)
include H
omit H in
theorem on_list {k : Nat} {f : List V → Option Slot} (h : ∀ v xs u, Seen B.w R s.heap v u → v.list? = some xs → fits xs.length = true → Gv (fun sl => T B A (call (primVal k) [u]) (GivesV B R sl) s) (f xs)) : Prim B A R s k fun vs => listOf vs f := fun vs us hv => .bind fun v e => .bind fun xs hx => .gdo fun hf => by
  obtain ⟨u, rfl, hu⟩ := hv.one e
  exact h v xs u (.of hu) hx hf
omit H in
theorem on_int {k : Nat} {f : Int → Option Slot} (h : ∀ i t, Gv (fun sl => T B A (call (primVal k) [.int i t]) (GivesV B R sl) s) (f i)) : Prim B A R s k fun vs => intOf vs f := fun vs us hv => .bind fun v e => .bind fun i hi => by
  obtain ⟨u, rfl, hu⟩ := hv.one e
  obtain ⟨t, rfl⟩ := hu.int_inv hi
  exact h i t
theorem len_ (rm : Room A n) {v : V} {xs : List V} {u : Value} (h : Seen B.w R s.heap v u) (hv : v.list? = some xs) (hf : fits xs.length = true) : T B A (call (.builtin "len") [u]) (GivesV B R (.val (.int xs.length))) s := by
  obtain ⟨l, items, ep, rfl, hl, hr⟩ := h.list H hv
  have e : (List.toArray items).size = xs.length := (List.size_toArray ..).trans hr.length
  refine len_list hl.isList (by have := fits_size hf; omega) ?_
  rw [e]
  exact give_val H (.int _ _) _
theorem isi_ (hk : kIsi B.K = true) {a b : V} {i : Addr × List (Str × V)} {C : Addr} {u v : Value} (ha : RepV B.w R a u) (hb : RepV B.w R b v) (hi : a.inst? = some i) (hC : b.stat? = some C) (h1 : insts.contains i.1 = true) (h2 : isClasses.contains C = true) : T B A (call (.builtin "isinstance") [u, v]) (GivesV B R (.val (.bool (i.1 == C)))) s := by
  cases V.inst_eq hi
  cases V.stat_eq hC
  rw [show v = .ref C from hb.flat]
  exact isinstance_sound H hk (.of ha) (List.contains_iff_mem.mp h1) (List.contains_iff_mem.mp h2)
theorem ord_ {x : Str} {c : Nat} {t : Tok} (hc : one? x.cps.toList = some c) : T B A (call (.builtin "ord") [.str x t]) (GivesV B R (.val (.int c))) s := by
  have : x = ⟨#[c]⟩ := congrArg Str.mk (Array.ext' (one_inv hc))
  rw [this]
  exact P.ord_of_char (give_val H (.int _ _) _)
theorem max_ (rm : Room A n) {a b : Int} {t t' : Tok} : T B A (call (.builtin "max") [.int a t, .int b t']) (GivesV B R (.val (.int (if a < b then b else a)))) s := by
  refine max_two_ints rm.hd fun h' tk hk => ?_
  by_cases c : a < b
  · rw [if_pos c, if_pos c]; exact give_val_at H hk (.int _ _)
  · rw [if_neg c, if_neg c]; exact give_val_at H hk (.int _ _)
theorem list_ {v : V} {xs : List V} {u : Value} (h : Seen B.w R s.heap v u) (hv : v.list? = some xs) (hf : fits xs.length = true) : T B A (call (.type "list") [u]) (GivesV B R (.own (.list xs))) s := by
  obtain ⟨l, items, ep, rfl, hl, hr⟩ := h.list H hv
  exact call_list_seq l (.inl rfl) hl rfl rfl (fun h' c' hk hD => give_own_at H hk (Nat.le_refl _) hD (.list _ _ _ hr)) (by rw [List.size_toArray, hr.length]; exact fits_line hf)
theorem dict_ {xs : List (Str × V)} {u : Value} (h : Seen B.w R s.heap (.dictS xs) u) (hf : fits xs.length = true) : T B A (call (.type "dict") [u]) (GivesV B R (.own (.dictS xs))) s := by
  obtain ⟨l, kvs', rfl, hz, hd, hkk, hr⟩ := h.dictS H rfl
  have hl : kvs'.length = xs.length := by rw [← List.length_map (as := kvs') (f := (·.1)), ← hkk, List.length_map]
  refine kt_call_dict hz hd (by rw [hl]; exact fits_line hf) fun h' hd' hs => ?_
  obtain ⟨o, ho, hdo⟩ := dictOf_iff.mp hd'
  exact give_own_at H (fun b o e => (hs.2 b (fun q => by rw [q] at e; exact Nat.lt_irrefl _ (Heap.lt_size e))).trans (Heap.get?_push_of_some _ e)) (Nat.le_refl _) ho (.dictS _ _ _ hdo hkk hr)
theorem str_ {i : Int} {t : Tok} (hf : Nat.blt i.natAbs (2 ^ 64) = true) : T B A (call (.type "str") [.int i t]) (GivesV B R (.val (.str (decS i)))) s := by
  refine P.str_of_int ?_ (give_val H (.str _ _) _)
  by_cases h0 : i.natAbs = 0
  · rw [h0]; decide
  · exact Nat.lt_trans ((Nat.log2_lt h0).mpr (Nat.blt_eq.mp hf)) (by decide)
theorem range_ {i : Int} {t : Tok} (h0 : decide (0 ≤ i) = true) : T B A (call (.type "range") [.int i t]) (GivesV B R (.val (.range i.toNat))) s := by
  obtain ⟨k, rfl⟩ := Int.eq_ofNat_of_zero_le (of_decide_eq_true h0)
  exact call_range_1 (give_new H rfl (.range k _ t _) _)
theorem join_ {x : Str} {v : V} {xs : List V} {u : Value} {t : Tok} (hv : Seen B.w R s.heap v u) (hx : v.list? = some xs) : Gv (fun r => T B A (call (.builtin "str.join") [.str x t, u]) (GivesV B R (.val (.str r))) s) (joinS x xs) := .bind fun ts hts => .gdo fun hok => .some (by
  obtain ⟨l, items, ep, rfl, hl, hr⟩ := hv.list H hx
  obtain ⟨q, rfl, hq⟩ := strsOf_sound hr ts hts
  exact SC.join hl.isList hq hok fun t' k => give_val H (.str _ _) _)
theorem get_ {a d : V} {kvs : List (Str × V)} {k : Str} {t : Tok} {u x : Value} (h : Seen B.w R s.heap a u) (ha : a.dictS? = some kvs) (hx : RepV B.w R d x) : T B A (call (.builtin "dict.get") [u, .str k t, x]) (GivesV B R (.val ((look k kvs).getD d))) s := by
  obtain ⟨dd, kvs', rfl, hz, hd, hkk, hr⟩ := h.dictS H ha
  refine call_meetsIn F.slot_dict_get hd.typeIs F.entry_dict_get (F.args_dict_get_3 _ _ _) (meets_dict_get_default (strKind PW B.w) dd (strKind_is _ _ _ t) hz x) ⟨_, hd.mapOf, give_val H ?_ _⟩
  have := look_rep k hkk hr
  cases hl : look k kvs with
  | none => rw [hl] at this; rw [show valueAt kvs' k = none from this]; exact hx
  | some y => rw [hl] at this; obtain ⟨z, hz, hrz⟩ := this; rw [hz]; exact hrz
theorem prim_all (hk : kIsi B.K = true) (rm : Room A n) : AllFrom (Prim B A R s) 0 primTab :=
  .cons (on_list fun v xs u h hv hf => .some (len_ H rm h hv hf)) <|
  .cons (fun vs us hv => .bind fun p e => .bind fun i hi => .bind fun C hC => .gdo fun h1 => .gdo fun h2 => .some (by
    obtain ⟨u, v, rfl, ha, hb⟩ := hv.two e
    exact isi_ H hk ha hb hi hC h1 h2)) <|
  .cons (on_list fun v xs u h hv hf => .map fun r hr => all_sound H rm hr h hv) <|
  .cons (fun vs us hv => .bind fun v e => .bind fun x hx => .bind fun c hc => .some (by
    obtain ⟨u, rfl, hu⟩ := hv.one e
    obtain ⟨t, rfl⟩ := hu.str_inv hx
    exact ord_ H hc)) <|
  .cons (fun vs us hv => .bind fun v e => .bind fun x hx => .gdo fun hf => .some (by
    obtain ⟨u, rfl, hu⟩ := hv.one e
    cases V.dictS_eq hx
    exact sorted_sound H rm (Nat.le_of_ble_eq_true hf) (.of hu))) <|
  .cons (fun vs us hv => .bind fun p e => .bind fun xs hx => .bind fun ys hy => .gdo fun h0 => .gdo fun hf => .map fun r hr => by
    obtain ⟨u, v, rfl, ha, hb⟩ := hv.two e
    rw [V.list_eq hx] at ha
    rw [V.list_eq hy, List.isEmpty_iff.mp h0] at hb
    exact sum_sound H rm hf hr (.of ha) hb) <|
  .cons (fun vs us hv => .bind fun p e => .bind fun a hx => .bind fun b hy => .some (by
    obtain ⟨u, v, rfl, ha, hb⟩ := hv.two e
    obtain ⟨t, rfl⟩ := ha.int_inv hx
    obtain ⟨t', rfl⟩ := hb.int_inv hy
    exact max_ H rm)) <|
  .cons (on_list fun v xs u h hv hf => .some (list_ H h hv hf)) <|
  .cons (fun vs us hv => .bind fun v e => by
    obtain ⟨u, rfl, hu⟩ := hv.one e
    cases v with
    | dictS xs => exact .gdo fun hf => .some (dict_ H (.of hu) hf)
    | list xs => exact .gdo fun hf => .map fun r hr => pairs_sound H rm hf hr (.of hu)
    | _ => exact .none) <|
  .cons (on_int fun i t => .gdo fun hf => .some (str_ H hf)) <|
  .cons (fun vs us hv => .bind fun v e => by
    obtain ⟨u, rfl, hu⟩ := hv.one e
    cases v with
    | int i => obtain ⟨t, rfl⟩ := hu.int_inv rfl; exact .some (call_int_int (give_val H (.int _ t) s.toks))
    | bool b => cases hu.bool_inv rfl; exact .some (call_int_bool (give_val H (.int _ _) _))
    | _ => exact .none) <|
  .cons (on_int fun i t => .gdo fun h0 => .gdo fun _ => .some (range_ H h0)) <|
  .cons (fun _ _ _ => .none) <| .cons (fun _ _ _ => .none) <| .cons (fun _ _ _ => .none) <|
  .cons (fun vs us hv => .bind fun p e => .bind fun x hx => .bind fun xs hy => .mapG (by
    obtain ⟨u, v, rfl, ha, hb⟩ := hv.two e
    obtain ⟨t, rfl⟩ := ha.str_inv hx
    exact join_ H (.of hb) hy)) <|
  .cons (fun vs us hv => .bind fun p e => .bind fun x hx => .bind fun y hy => .some (by
    obtain ⟨u, v, rfl, ha, hb⟩ := hv.two e
    obtain ⟨t, rfl⟩ := ha.str_inv hx
    obtain ⟨t', rfl⟩ := hb.str_inv hy
    exact SC.rfind (give_val H (.int _ _) _))) <|
  .cons (fun vs us hv => .bind fun v e => .map fun x hx => by
    obtain ⟨u, rfl, hu⟩ := hv.one e
    obtain ⟨t, rfl⟩ := hu.str_inv hx
    exact SC.isdigit (give_val H (.bool _) s.toks)) <|
  .cons (fun vs us hv => .bind fun p e => .bind fun kvs hx => .map fun k hy => by
    cases vs with
    | nil => exact ns e
    | cons a r =>
    obtain ⟨q, hq, rfl⟩ := Option.map_eq_some_iff.mp (show (two? r).map (fun p => (a, p)) = some p from e)
    obtain ⟨u, us, rfl, h1, h2⟩ := hv.inv
    obtain ⟨v, x, rfl, ha, hb⟩ := h2.two hq
    obtain ⟨t, rfl⟩ := ha.str_inv hy
    exact get_ H (.of h1) hx hb) trivial
theorem prim_sound (hk : kIsi B.K = true) (rm : Room A n) {k : Nat} {vs : List V} {us : List Value} (h : RepL B.w R vs us) : Gv (fun sl => T B A (call (primVal k) us) (GivesV B R sl) s) (prim k vs) := .bind fun f hf => by
  have := (prim_all H hk rm).get hf vs us h
  rw [Nat.zero_add] at this
  exact this
end
end
end Mini
section
open PySem.Spec
namespace Mini
theorem typeCall_set_1 (a : Value) : checkTypeCall "set" ⟨[a], []⟩ = pure () := by kernel_rfl
theorem newCall_set_1 (a : Value) : checkBuiltinCall "set.__new__" ⟨[.type "set", a], []⟩ = pure () := by kernel_rfl
theorem sub_list_set' : isSubtype (.type "list") (.type "set") = pure false := by rw [isSubtype_type]; kernel_rfl
theorem sub_list_fset' : isSubtype (.type "list") (.type "frozenset") = pure false := by rw [isSubtype_type]; kernel_rfl
theorem plain_set_loop : plainId "set.update.loop" = true := by decide +kernel
theorem entry_set_loop : entryFor table "set.update.loop" = some Builtin.«set.update.loop» := entryFor_of_fast (by kernel_rfl)
section
variable {prog : Program} {w : World} {A : Around} {E : Value → Shared → Prop} {s : Shared}
theorem code_set_new1 (a : Value) {Q₁ : Value → Shared → Prop}
    (h : ∀ led : Bool, Q₁ (.ref s.heap.objs.size) { s with heap := s.heap.push { cls := .type "set", dict := none, data := .set #[] 0 (.fresh 0 0 led) } }) :
    codeAny (model prog w) A (.call (.builtin "set.__new__") ⟨[.type "set", a], []⟩) (wants Q₁ E) s := by
  refine codeAny_of_tree ?_
  show wpAny _ A.in1 (do checkBuiltinCall "set.__new__" ⟨[.type "set", a], []⟩; again (.builtin "set.__new__" ⟨[.type "set", a], []⟩)) _ _ s
  refine wpAny_bind (wpAny_of_eq (newCall_set_1 a) (wpAny_pure ⟨plainId_quiet F.plain_set_new _, codeAny_builtin F.entry_set_new ?_⟩))
  rw [Around.under_plainId F.plain_set_new _]
  unfold Builtin.«set.__new__» Builtin.Frozenset.newClass
  have hsub := sub_set_self
  obtain ⟨hp, g, d, tk, os⟩ := s
  dsimp only
  wp_walk
  refine wpAny_askSetting (wpAny_pure ?_)
  dsimp only
  simp only [newObj]
  refine wpAny_bind (wpAny_alloc (wpAny_pure ?_))
  exact wpAny_pure (h _)
theorem check_set_init1 {M : Model} {self a : Value} {Q : Unit → Shared → Prop} (hT : s.TypeIs self "set") (hQ : Q () s) :
    wpAny M A (checkBuiltinCall "set.__init__" ⟨[self, a], []⟩) Q E s := by
  simp only [checkBuiltinCall, kind_set_init, split_set_init, sig_set_init]
  refine wpAny_bind (wpAny_isInstance hT sub_set_self ?_)
  simp only [Bool.not_true, Bool.false_eq_true, if_false]
  unfold Bind.checkArgs
  dsimp only
  refine wpAny_bind (m := Bind.printed "set" true _ _) (PyProof.Rows.printed_name (by decide) ?_)
  refine wpAny_bind (m := Bind.printed "*" false _ _) (PyProof.Rows.printed_star (self := self) rfl hT fun short => ?_)
  have hrn : (Manifest.Receiver.self == Manifest.Receiver.none) = false := by decide
  have hn : (if (Manifest.Receiver.self == Manifest.Receiver.none) = true then [self, a].length else [self, a].length - 1) = 1 := by simp [hrn]
  rw [hn]
  simp only [List.map_nil]
  have hc : Bind.check ⟨.positional, "set", "*", .self, [⟨"iterable", .posOnly, false⟩]⟩ "set" short 1 [] = pure () := by
    simp [Bind.check, Bind.checkCount, Bind.isPositional]
    intro h
    exact absurd h (by decide)
  rw [hc]
  exact wpAny_pure hQ
end
section
variable {B : Bs} {A : Around} {R : RM} {s : Shared} {n : Nat}
noncomputable def also (y : Str) (acc : List Str) : List Str := match acc.contains y with
  | true => acc
  | false => y :: acc
theorem distinct_cons {v : V} {r : List V} {acc : List Str} {m : Nat} (h : distinct (v :: r) acc = some m) : ∃ x, v.str? = some x ∧ distinct r (also x acc) = some m := bnd h
theorem also_size {y : Str} {acc : List Str} {c : Bool} (h : c = acc.contains y) : (if c then acc.length else acc.length + 1) = (also y acc).length := by
  unfold also
  rw [h]
  cases acc.contains y <;> rfl
theorem also_le (y : Str) (acc : List Str) : (also y acc).length ≤ acc.length + 1 := by
  unfold also
  cases acc.contains y with
  | true => exact Nat.le_succ _
  | false => exact Nat.le_refl _
theorem also_has {y : Str} {acc : List Str} {S : Str → Bool} (h : ∀ x, S x = acc.contains x) (x : Str) : (S x || decide (x = y)) = (also y acc).contains x := by
  unfold also
  rw [h x]
  cases q : acc.contains y with
  | true =>
    by_cases e : x = y
    · rw [e, q]; rfl
    · rw [decide_eq_false e, Bool.or_false]
  | false =>
    by_cases e : x = y
    · rw [e, decide_eq_true rfl, Bool.or_true, List.contains_cons, beq_self_eq_true]; rfl
    · rw [decide_eq_false e, Bool.or_false, List.contains_cons, beq_eq_false_iff_ne.mpr e]; rfl
theorem set_loop {I d : Addr} {fp wr : List Addr} {items : List Value} {Pv : Nat → Value → Prop} {St : Nat → Heap → Prop} {m : Nat} {Qr : Result → Shared → Prop} (hn : items.length ≤ 100)
    (hQ : ∀ h tk S, h.SetOf (PySem.strKind PW B.w) d S m → (∀ b o, s.heap.get? b = some o → h.get? b = some o) → Qr (.ok (.ret .none)) { s with heap := h, toks := tk }) (W : Walks PW B.w A.in1 I fp wr items.length Pv St) (hP : ∀ i v, Pv i v → items[i]? = some v)
    (hSf : d ∉ fp) (hSs : ∀ b q, s.heap.get? b = some q → b ≠ d) (hwr : ∀ b q, s.heap.get? b = some q → b ∉ wr) :
    ∀ (k i : Nat) (h : Heap) (tk : Nat) (acc : List Str) (S : Str → Bool) (rest : List V), items.length - i = k → i ≤ items.length → RepL B.w R rest (items.drop i) → distinct rest acc = some m → St i h →
      h.SetOf (PySem.strKind PW B.w) d S acc.length → (∀ x, S x = acc.contains x) → acc.length ≤ i → (∀ b o, s.heap.get? b = some o → h.get? b = some o) →
      codeAny (model PW B.w) A (.builtin "set.update.loop" ⟨[.ref d, .ref I], []⟩) Qr { s with heap := h, toks := tk } := by
  have hSw : d ∉ wr := fun h => hSf (W.sub _ h)
  intro k
  induction k with
  | zero =>
    intro i h tk acc S rest hk hi hr hsum hst hS hc hle hkp
    have hin : i = items.length := by omega
    subst hin
    rw [List.drop_length] at hr
    cases hr
    cases hsum
    refine codeAny_builtin entry_set_loop ?_
    rw [Around.under_plainId plain_set_loop _]
    show wpAny _ A.in1 (pyNext (.ref I) >>= _) _ _ _
    refine wpAny_bind (W.done _ _ _ hst fun h' tk' hk' => ?_)
    refine wpAny_pure (hQ _ _ S ?_ fun b o e => hk' b o (hwr b o e) (hkp b o e))
    obtain ⟨o, es, ep, t, ho, hx⟩ := hS
    exact ⟨o, es, ep, t, hk' _ _ hSw ho, hx⟩
  | succ k ih =>
    intro i h tk acc S rest hk hi hr hsum hst hS hc hle hkp
    have hlt' : i < items.length := by omega
    obtain ⟨x, r', hx⟩ : ∃ x r', items.drop i = x :: r' := by
      cases e : items.drop i with
      | nil => have := List.drop_eq_nil_iff.mp e; omega
      | cons x r' => exact ⟨x, r', rfl⟩
    obtain ⟨e1, e2⟩ := drop_cons hx
    rw [hx] at hr
    cases rest with
    | nil => cases hr
    | cons v vs =>
      obtain ⟨_, _, e0, hv, hvs⟩ := hr.inv
      cases e0
      obtain ⟨y, hy, hsum2⟩ := distinct_cons hsum
      obtain ⟨ty, rfl⟩ := hv.str_inv hy
      refine codeAny_builtin entry_set_loop ?_
      rw [Around.under_plainId plain_set_loop _]
      show wpAny _ A.in1 (pyNext (.ref I) >>= _) _ _ _
      refine wpAny_bind (W.item i _ _ _ hlt' hst fun v' h' tk' hPv hst' hk' => ?_)
      have ev := hP i v' hPv
      rw [e1] at ev
      cases ev
      have hS' : h'.SetOf (PySem.strKind PW B.w) d S acc.length := by
        obtain ⟨o, es, ep, t, ho, hx⟩ := hS
        exact ⟨o, es, ep, t, hk' _ _ hSw ho, hx⟩
      show wpAny _ A.in1 ((holding [Value.str y ty] _) >>= _) _ _ _
      refine wpAny_bind (wpAny_holding ?_)
      unfold setAdd
      refine wpAny_holding (wpAny_bind ((PySem.strKind PW B.w).pyHash (strKind_is PW B.w y ty) ?_))
      refine wpAny_setAddHashed_of (s := { s with heap := h', toks := tk' + 1 }) (strKind_is PW B.w y ty) rfl hS' ?_ fun h'' hs hS'' => ?_
      · have : scanBound = 4096 := rfl
        omega
      rw [also_size (hc y)] at hS''
      refine wpAny_pure ⟨plainId_quiet plain_set_loop _, ih (i + 1) _ _ _ _ vs (by omega) hlt' (by rw [e2]; exact hvs) hsum2 (W.frame _ _ _ hst' fun b hb o e => (hs.2 b (fun h : b = d => hSf (by rw [← h]; exact hb))).trans e) hS'' (also_has hc) (Nat.le_trans (also_le y acc) (Nat.succ_le_succ hle)) fun b o e => (hs.2 b (hSs b o e)).trans (hk' _ _ (hwr b o e) (hkp b o e))⟩
theorem set_name {prog : Program} {w : World} {E : Value → Shared → Prop} {d : Addr} {Q : String → Shared → Prop} (hT : s.TypeIs (.ref d) "set") (h : ∀ x, Q x s) : wpAny (model prog w) A (typeNameOfCut 200 (.ref d)) Q E s := by
  unfold typeNameOfCut
  wp_walk
  exact h _
theorem set_any {prog : Program} {w : World} {E : Value → Shared → Prop} {l : Addr} {Q : Bool → Shared → Prop} (hT : s.TypeIs (.ref l) "list") (h : Q false s) : wpAny (model prog w) A (Builtin.Frozenset.isAnySet (.ref l)) Q E s := by
  unfold Builtin.Frozenset.isAnySet
  refine wpAny_bind (m := isInstance _ _) (wpAny_isInstance hT sub_list_set' ?_)
  exact wpAny_isInstance hT sub_list_fset' h
theorem set_init (H : HS B R s) (hA : A.handled = none) {xs : List V} {l : Addr} {m : Nat} {items : List Value} {ep : Nat} {P : PySem.Fin → Shared → Prop} {E : Value → Shared → Prop} (hf : xs.length ≤ 100) (e : distinct xs [] = some m) (hl : IsL s.heap l items.toArray ep) (hr : RepL B.w R xs items) (led : Bool)
    (h : ∀ h' tk S, h'.SetOf (PySem.strKind PW B.w) s.heap.objs.size S m → (∀ b o, s.heap.get? b = some o → h'.get? b = some o) → P (.done (.ret .none)) { s with heap := h', toks := tk }) :
    wpAny (model PW B.w) A (Builtin.«set.__init__» ⟨[.ref s.heap.objs.size, .ref l], []⟩) P E { s with heap := s.heap.push { cls := .type "set", dict := none, data := .set #[] 0 (.fresh 0 0 led) } } := by
  have hlt : l < s.heap.objs.size := Heap.lt_size hl
  have hS : (s.heap.push { cls := .type "set", dict := none, data := .set #[] 0 (.fresh 0 0 led) }).get? s.heap.objs.size = some { cls := .type "set", dict := none, data := .set #[] 0 (.fresh 0 0 led) } := Heap.get?_push_size _ rfl
  have hl1 : IsL (s.heap.push { cls := .type "set", dict := none, data := .set #[] 0 (.fresh 0 0 led) }) l items.toArray ep := Heap.get?_push_of_some _ hl
  have hso := setObjOf_fresh (knd := PySem.strKind PW B.w) led
  unfold Builtin.«set.__init__»
  refine wpAny_bind (m := noKeywords "set" _) (wpAny_pure ?_)
  show wpAny _ _ (typeNameOfCut 200 (.ref s.heap.objs.size) >>= _) _ _ _
  refine wpAny_bind (set_name ⟨_, hS, rfl⟩ fun nm => ?_)
  refine wpAny_bind (m := checkCount nm 0 1 1) (wpAny_pure ?_)
  refine wpAny_bind (m := Builtin.Frozenset.addrOf _) (wpAny_pure ?_)
  refine wpAny_bind ?_
  unfold setUsed
  refine wpAny_bind (wpAny_setState_of hS rfl rfl (wpAny_pure ?_))
  show wpAny _ _ (Builtin.Frozenset.updateFrom "set.__init__" s.heap.objs.size (.ref l) >>= fun _ => ret .none) _ _ _
  refine wpAny_bind ?_
  unfold Builtin.Frozenset.updateFrom
  refine wpAny_bind (set_any ⟨_, hl1, rfl⟩ ?_)
  rw [if_neg Bool.false_ne_true]
  refine wpAny_bind (wpAny_typeOf (T := "list") ⟨_, hl1, rfl⟩ ?_)
  rw [if_neg (by decide)]
  refine wpAny_bind (wpAny_pyIter_list hl1.isList ?_)
  have hn : items.length ≤ 100 := by rw [hr.length]; exact hf
  have hz : (s.heap.push { cls := .type "set", dict := none, data := .set #[] 0 (.fresh 0 0 led) }).objs.size = s.heap.objs.size + 1 := Heap.size_push ..
  have W := Walks.list (prog := PW) (w := B.w) (A := A.in1) hA (s.heap.objs.size + 1) l (Nat.ne_of_lt (Nat.lt_succ_of_lt hlt)) (List.toArray items)
  rw [show (List.toArray items).size = items.length from List.size_toArray ..] at W
  have k1 : ∀ o b q, s.heap.get? b = some q → ((s.heap.push { cls := .type "set", dict := none, data := .set #[] 0 (.fresh 0 0 led) }).push o).get? b = some q := fun o b q e => Heap.get?_push_of_some _ (Heap.get?_push_of_some _ e)
  refine wpAny_bind (wpAny_runValue ?_)
  show codeAny _ _ (.builtin "set.update.loop" ⟨[.ref s.heap.objs.size, .ref (s.heap.push { cls := .type "set", dict := none, data := .set #[] 0 (.fresh 0 0 led) }).objs.size], []⟩) _ _
  have hit : ((s.heap.push { cls := .type "set", dict := none, data := .set #[] 0 (.fresh 0 0 led) }).push { cls := .type "list_iterator", data := .fields #[.ref l, .int 0 0] }).get? (s.heap.objs.size + 1) = some { cls := .type "list_iterator", data := .fields #[.ref l, .int 0 0] } := by rw [← hz]; exact Heap.get?_push_size _ rfl
  rw [hz]
  exact set_loop (A := A) (s := s) hn (fun h' tk S hS hk => by exact wpAny_pure (wpAny_pure (h h' tk S hS hk))) W (fun i v h => by simpa using h) (d := s.heap.objs.size) (fun h => by
    rcases List.mem_cons.mp h with h | h
    · exact Nat.succ_ne_self _ h.symm
    · exact Nat.ne_of_gt hlt (List.mem_singleton.mp h)) (fun b q e => Nat.ne_of_lt (Heap.lt_size e)) (fun b q e h => by have := Heap.lt_size e; rw [List.mem_singleton.mp h] at this; exact Nat.not_succ_lt_self this) items.length 0 _ s.toks [] (fun _ => false) xs rfl (Nat.zero_le _) hr e ⟨⟨_, hit, rfl, rfl⟩, (hl1.isList).push _⟩ (hso.setOf (Heap.get?_push_of_some _ hS) (by decide)) (fun x => rfl) (Nat.le_refl _) (k1 _)
theorem call_set_list (H : HS B R s) (rm : Room A n) {xs : List V} {l : Addr} {m : Nat} {items : List Value} {ep : Nat} {Q : Value → Shared → Prop} (hf : xs.length ≤ 100) (e : distinct xs [] = some m) (hl : IsL s.heap l items.toArray ep) (hr : RepL B.w R xs items)
    (h : ∀ h' tk S, h'.SetOf (PySem.strKind PW B.w) s.heap.objs.size S m → (∀ b o, s.heap.get? b = some o → h'.get? b = some o) → Q (.ref s.heap.objs.size) { s with heap := h', toks := tk }) :
    T B A (call (.type "set") [.ref l]) Q s := by
  obtain ⟨c, tl, hmro⟩ := F.called_set.mro
  have hmade := F.called_set.made
  have hsub := F.called_set.sub
  have hlt : l < s.heap.objs.size := Heap.lt_size hl
  refine wpAny_call (codeAny_of_tree ?_)
  show wpAny _ _ (callAny (.type "set") _) _ _ _
  refine wpAny_pure ⟨Code.quiet_builtin _ (by decide +kernel), codeAny_builtin F.entry_type_call ?_⟩
  rw [Around.under_plain (weight_type_call_type "set" [.ref l] []) rfl]
  have h1 := F.called_set.notType
  have h2 := F.called_set.canCreate
  have hct := typeCall_set_1 (.ref l)
  repeat (any_goals (first | assumption | wp_step))
  refine codeAny_mono (code_set_new1 (.ref l) (E := fun _ _ => False) (Q₁ := fun obj s₁ => ∃ led : Bool, obj = .ref s.heap.objs.size ∧ s₁ = { s with heap := s.heap.push { cls := .type "set", dict := none, data := .set #[] 0 (.fresh 0 0 led) } }) fun led => ⟨led, rfl, rfl⟩) fun r s₁ hr₁ => ?_
  cases r with
  | error e => exact hr₁
  | ok fl =>
    cases fl with
    | ret obj =>
      obtain ⟨led, rfl, rfl⟩ := hr₁
      have hS : (s.heap.push { cls := .type "set", dict := none, data := .set #[] 0 (.fresh 0 0 led) }).get? s.heap.objs.size = some { cls := .type "set", dict := none, data := .set #[] 0 (.fresh 0 0 led) } := Heap.get?_push_size _ rfl
      have hT : Shared.TypeIs { s with heap := s.heap.push { cls := .type "set", dict := none, data := .set #[] 0 (.fresh 0 0 led) } } (.ref s.heap.objs.size) "set" := ⟨_, hS, rfl⟩
      have hli := F.called_set.init.lookup
      have hbi := F.called_set.init.bind (.ref s.heap.objs.size)
      repeat (any_goals (first | assumption | wp_step))
      refine codeAny_mono (codeAny_call_builtin (R := wants (fun r s₂ => r = .none ∧ Q (.ref s.heap.objs.size) s₂) fun _ _ => False) F.called_set.init.plain F.entry_set_init (check_set_init1 hT ?_)) fun r₂ s₂ hr₂ => ?_
      · have hl1 : IsL (s.heap.push { cls := .type "set", dict := none, data := .set #[] 0 (.fresh 0 0 led) }) l items.toArray ep := Heap.get?_push_of_some _ hl
        have hTl : Shared.TypeIs { s with heap := s.heap.push { cls := .type "set", dict := none, data := .set #[] 0 (.fresh 0 0 led) } } (.ref l) "list" := ⟨_, hl1, rfl⟩
        have W := fun A' (hA : Around.handled A' = none) => Walks.list (prog := PW) (w := B.w) (A := A') hA (s.heap.objs.size + 1) l (Nat.ne_of_lt (Nat.lt_succ_of_lt hlt)) (List.toArray items)
        unfold Builtin.«set.__init__» Builtin.Frozenset.updateFrom noKeywords
        exact set_init (A := A.in1.in1) H rm.hd hf e hl hr led fun h' tk S hS hk => ⟨rfl, h h' tk S hS hk⟩
      · cases r₂ with
        | error e => exact hr₂
        | ok fl₂ =>
          cases fl₂ with
          | ret r =>
            obtain ⟨rfl, hq⟩ := hr₂
            repeat (any_goals (first | assumption | wp_step))
          | _ => exact hr₂.elim
    | _ => exact hr₁.elim
theorem lenset_sound (H : HS B R s) (rm : Room A n) {xs : List V} {u : Value} {m : Nat} (hf : xs.length ≤ 100) (e : distinct xs [] = some m) (hx : Seen B.w R s.heap (.list xs) u) :
    T B A (call (.type "set") [u]) (fun v s₁ => B.K.In s₁.heap ∧ T B A (call (.builtin "len") [v]) (GivesV B R (.val (.int m))) s₁) s := by
  obtain ⟨l, items, ep, rfl, hl, hr⟩ := hx.list H rfl
  refine call_set_list H rm hf e hl hr fun h' tk S hS hk => ⟨(H.kept (s' := { s with heap := h', toks := tk }) hk rfl rfl).K, ?_⟩
  obtain ⟨o, es, ep', t, ho, hex, hd, hel, hmem, hb, hft, rfl⟩ := hS
  have : scanBound = 4096 := rfl
  exact call_len_set ho hex hd hft (by omega) (give_val_at H hk (.int _ _))
end
end Mini
end
namespace Mini
section
variable {B : Bs} {A : Around} {C : CallT} {ev : Evs} {sc : Scope}
theorem ResOK.ext {w : World} {Rm R R' : RM} {sl : Slot} {u : Value} {L : Option Addr} (h : ResOK w Rm R sl u) (x : Ext L R R') : ResOK w Rm R' sl u := by
  cases sl with
  | val v => exact RepV.mono x.le h
  | own v => obtain ⟨a, e, p, q⟩ := h; exact ⟨a, e, x.temp p, q⟩
  | _ => exact h
theorem ResOK.back {w : World} {Rm R R' : RM} {sl : Slot} {u : Value} {L : Option Addr} (h : ResOK w R R' sl u) (x : Ext L Rm R) : ResOK w Rm R' sl u := by
  cases sl with
  | val v => exact h
  | own v =>
    obtain ⟨a, e, p, q⟩ := h
    refine ⟨a, e, p, ?_⟩
    cases hr : Rm a with
    | none => rfl
    | some sp => obtain ⟨sp', h'⟩ := x.dom a sp hr; rw [q] at h'; cases h'
  | _ => exact h
theorem Post.res {env : Env} {own : Bool} {σ : St} {L : Option Addr} {Rm R₁ : RM} {sl : Slot} {u : Value} {s : Shared} (x : Ext L Rm R₁) (h : Post B env own σ L R₁ (PRes B.w sl) u s) : Post B env own σ L Rm (PRes B.w sl) u s := let ⟨R', i, x', q⟩ := h; ⟨R', i, x.trans x', ResOK.back q x⟩
theorem Paired.imp {α β : Type} {F G : α → β → Prop} (k : ∀ a b, F a b → G a b) : ∀ {l : List α} {l' : List β}, Paired F l l' → Paired G l l'
  | _, _, .nil => .nil
  | _, _, .cons h r => .cons (k _ _ h) (imp k r)
noncomputable def PSlots (w : World) (sls : List Slot) (Rm R' : RM) (us : List Value) : Prop := Paired (fun sl u => ResOK w Rm R' sl u) sls us
noncomputable def slOf (es : List Expr) (env : Env) : Sem (List Value) := spliced (starEach es env)
structure SQ (B : Bs) (A : Around) (sc : Scope) (es : List Expr) (σ : St) (sls : List Slot) (σ' : St) : Prop where
  len : sls.length = es.length
  go : Runs B A sc σ σ' (slOf es) (PSlots B.w sls)
theorem SQ.cons {e : Expr} {es : List Expr} {σ σ₁ σ₂ : St} {sl : Slot} {sls : List Slot} (hst : isStarred e = false) (t : EQ B A sc e σ sl σ₁) (t2 : SQ B A sc es σ₁ sls σ₂) : SQ B A sc (e :: es) σ (sl :: sls) σ₂ := by
  refine ⟨congrArg (· + 1) t2.len, fun env own Rm s he I => ?_⟩
  unfold slOf
  rw [starEach_of _ _ hst]
  exact spliced_cons (Runs.go t he I fun R₁ u s₁ I₁ x₁ r₁ => Runs.go t2.go he I₁ fun R₂ us s₂ I₂ x₂ r₂ => ⟨R₂, I₂, x₁.trans x₂, .cons (ResOK.ext r₁ x₂) (Paired.imp (fun sl u q => ResOK.back q x₁) r₂)⟩)
theorem SoundE.sl (S : SoundE B A C ev sc) : ∀ (es : List Expr) (σ : St), Steps C (fun k => ev.sl es σ k) (SQ B A sc es σ)
  | [], σ => fun k K => K _ _ ⟨rfl, fun env own Rm s he I => spliced_nil ⟨Rm, I, .refl _ _, .nil⟩⟩
  | e :: es, σ => fun k K => .gdn fun hst => S e σ _ fun sl σ₁ t => SoundE.sl S es σ₁ _ fun sls σ₂ t2 => K _ _ (t2.cons hst t)
theorem regVal_at {env : Env} {own : Bool} {σ : St} {Rm : RM} {s : Shared} (I : Inv B env own σ Rm s) {r : Nat} {c : V} {u : Value} (h : RepV B.w Rm (.reg r) u) (e : regVal σ.2 r = some c) : ∃ a, u = .ref a ∧ Rm a = some (.reg r c) ∧ muGet σ.2 r = some c := by
  obtain ⟨c', e1, e⟩ := bnd e
  obtain ⟨e2, e⟩ := gdo_some e
  cases e
  obtain ⟨a, rfl, g⟩ := h.flat
  obtain ⟨b, sp, hb, hsp⟩ := I.rg.here r c e1
  rcases hsp with rfl | ⟨q, _⟩
  · cases I.hs.regs a b r g ⟨_, hb, rfl⟩
    exact ⟨a, rfl, hb, e1⟩
  · rw [q] at e2; exact nomatch e2
theorem deref_seen {env : Env} {own : Bool} {σ : St} {Rm : RM} {s : Shared} (I : Inv B env own σ Rm s) {b : V} {u : Value} (h : RepV B.w Rm b u) : Gv (fun c => Seen B.w Rm s.heap c u) (deref σ.2 b) := .els (fun r hr c e => by
    cases V.reg_eq hr
    obtain ⟨a, rfl, ha, _⟩ := regVal_at I h e
    obtain ⟨o, ho, hr, hz⟩ := I.hs.holds a _ ha
    exact .inr ⟨a, o, rfl, ho, hr, hz⟩) fun _ => .some (.of h)
variable {n : Nat}
noncomputable def CmpT (B : Bs) (A : Around) (env : Env) (op : CmpOp) (x : Expr) (u : Value) (Q : Value → Value → Shared → Prop) (s : Shared) : Prop := T B A (eval x env) (fun v s₁ => T B A (compareOp op u v) (Q v) s₁) s
theorem CmpT.mono {env : Env} {op : CmpOp} {x : Expr} {u : Value} {Q Q' : Value → Value → Shared → Prop} {s : Shared} (h : CmpT B A env op x u Q s) (k : ∀ v y s', Q v y s' → Q' v y s') : CmpT B A env op x u Q' s := T.mono h fun v s₁ h₁ => T.mono h₁ fun y s₂ h₂ => k v y s₂ h₂
noncomputable abbrev CPost (B : Bs) (env : Env) (own : Bool) (σ' : St) (Rm : RM) (b : Bool) : Value → Shared → Prop := Post B env own σ' (some env.locals) Rm (PEq (Value.bool b))
noncomputable def OneQ (B : Bs) (A : Around) (sc : Scope) (a : V) (op : CmpOp) (x : Expr) (σ : St) (b : Bool) (σ' : St) : Prop :=
  ∀ env own Rm s u, env.scope = sc → Inv B env own σ Rm s → RepV B.w Rm a u → CmpT B A env op x u (fun _ => CPost B env own σ' Rm b) s
noncomputable def TwoQ (B : Bs) (A : Around) (sc : Scope) (l : Expr) (op : CmpOp) (x : Expr) (σ : St) (b : Bool) (σ' : St) : Prop :=
  ∀ env own Rm s, env.scope = sc → Inv B env own σ Rm s → T B A (eval l env) (fun u s₁ => CmpT B A env op x u (fun _ => CPost B env own σ' Rm b) s₁) s
theorem CPost.after {env : Env} {own : Bool} {σ' : St} {Rm R₁ : RM} {b : Bool} {u : Value} {s : Shared} (x : Ext (some env.locals) Rm R₁) (h : CPost B env own σ' R₁ b u s) : CPost B env own σ' Rm b u s := let ⟨R', i, x', e⟩ := h; ⟨R', i, x.trans x', e⟩
theorem chain1_sound (S : SoundE B A C ev sc) (rm : Room A n) (a : V) (op : CmpOp) (x : Expr) (σ : St) : Steps C (fun k => chain1 ev a op x σ k) (fun b σ' => behindInMarks op x = false ∧ OneQ B A sc a op x σ b σ') := fun k K =>
  .gdn fun hm => S.v x σ _ fun v σ₁ t => .opt fun b' hd => .cmp fun c hc => K _ _ ⟨hm, fun env own Rm s u he I hu => Runs.go t he I fun R₁ v' s₁ I₁ x₁ r₁ =>
    (cmp_sound I₁.hs rm (.of (RepV.mono x₁.le hu)) (deref_seen I₁ r₁ _ hd) c hc).mono fun y s₂ ⟨e, t, e'⟩ => ⟨R₁, e' ▸ I₁.tok t, x₁, e⟩⟩
theorem own_nil {env : Env} {own : Bool} {σ : St} {Rm : RM} {s : Shared} {x : Str} {xs : List V} {p pp : Pos} (rm : Room A n) (I : Inv B env own σ Rm s) (hd : (x == so "__debug__") = false) (hx : σ.1.lookup x = some (.own (.list xs))) :
    T B A (eval (.Name x p) env) (fun u s₁ => CmpT B A env .NotEq (.List [] pp) u (fun _ => CPost B env own σ Rm (!xs.isEmpty)) s₁) s := by
  obtain ⟨ov, hv, a, e, ha⟩ := I.fm.vars _ _ hx
  subst e
  refine load_var I hv hd ?_
  obtain ⟨o, ho, hr, hz⟩ := I.hs.holds a _ ha
  obtain ⟨items, ep, rfl, hq⟩ := hr.inv
  · show T B A (do standAt pp; newList (← spliced [])) _ s
    refine wpAny_bind (wpAny_standAt (wpAny_bind (spliced_nil (wpAny_newList ?_ (by simp)))))
    have H2 := I.hs.alloc (o := { cls := .type "list", data := .seq #[] }) (sp := .frozen { cls := .type "list", data := .seq #[] }) rfl (Heap.get?_push_size _ rfl) (fun _ e => nomatch e) rfl
    have g : Grow Rm _ := .upd (sp := .frozen { cls := .type "list", data := .seq #[] }) I.hs.fresh rfl
    have l1 : (s.heap.push { cls := .type "list", data := .seq #[] }).IsList a items.toArray := ⟨_, Heap.get?_push_of_some _ ho, rfl, ep, rfl⟩
    have l2 : (s.heap.push { cls := .type "list", data := .seq #[] }).IsList s.heap.objs.size #[] := ⟨_, Heap.get?_push_size _ rfl, rfl, 0, rfl⟩
    have fin : ∀ c : Bool, c = (!xs.isEmpty) → CPost B env own σ Rm (!xs.isEmpty) (.bool c) { s with heap := s.heap.push { cls := .type "list", data := .seq #[] } } := fun c hc => ⟨_, I.grow H2 g, g.ext _, congrArg Value.bool hc⟩
    have hl := hq.length
    cases xs with
    | nil =>
      have : items = [] := List.eq_nil_of_length_eq_zero hl
      subst this
      exact SeqAt.RcNeAt.lists (e := fun _ => true) l1 l2 rfl rm.lt (fun j h1 => absurd h1 (Nat.not_lt_zero _)) PW B.w _ _ (fin _ rfl)
    | cons y r => exact SeqAt.RcNeAt.lists_lengths l1 l2 (by rw [List.size_toArray, hl]; rfl) rm.lt PW B.w _ _ (fin _ rfl)
noncomputable def EV.is (e : Expr) (w : EV) : Prop := match w with
  | .name x p => e = .Name x p
  | .tup es => ∃ k p, e = .Tuple es k p
  | .call f args kws p => e = .Call f args kws p
  | .list es => ∃ p, e = .List es p
  | .slice lo up st => ∃ p, e = .Slice lo up st p
  | .attr o a p => e = .Attribute o a p
  | .sub o i => ∃ p, e = .Subscript o i p
  | .un op x => ∃ p, e = .UnaryOp op x p
  | .const c => ∃ k p, e = .Constant c k p
  | _ => True
theorem ev_is (e : Expr) : (evOf e).is e := by cases e <;> first | trivial | exact rfl | exact ⟨_, rfl⟩ | exact ⟨_, _, rfl⟩
section
variable {e : Expr}
theorem EV.name_inv {w : EV} (i : w.is e) {x : Str} (h : w.name? = some x) : ∃ p, e = .Name x p := by cases w with | name y p => cases h; exact ⟨_, i⟩ | _ => exact ns h
theorem EV.list_inv {w : EV} (i : w.is e) {es : List Expr} (h : w.list? = some es) : ∃ p, e = .List es p := by cases w with | list y => cases h; exact i | _ => exact ns h
theorem EV.tup_inv {w : EV} (i : w.is e) {es : List Expr} (h : w.tup? = some es) : ∃ k p, e = .Tuple es k p := by cases w with | tup y => cases h; exact i | _ => exact ns h
theorem EV.slice_inv {w : EV} (i : w.is e) {q : Option Expr × Option Expr × Option Expr} (h : w.slice? = some q) : ∃ p, e = .Slice q.1 q.2.1 q.2.2 p := by cases w with | slice a b c => cases h; exact i | _ => exact ns h
theorem EV.call_inv {w : EV} (i : w.is e) {q : Expr × List Expr × Bool} (h : w.call? = some q) : ∃ kws p, e = .Call q.1 q.2.1 kws p ∧ q.2.2 = kws.isEmpty := by cases w with | call f args kws p => cases h; exact ⟨kws, p, i, rfl⟩ | _ => exact ns h
theorem EV.one_inv {w : EV} (i : w.is e) (h : w.one? = true) : ∃ k p, e = .Constant (.int 1) k p := by cases w with | const c => cases of_decide_eq_true h; exact i | _ => exact ft h
theorem EV.neg_inv {w : EV} (i : w.is e) {x : Expr} (h : w.neg? = some x) : ∃ p, e = .UnaryOp .USub x p := by cases w with | un op y => obtain ⟨h1, h2⟩ := gdo_some h; cases of_decide_eq_true h1; cases h2; exact i | _ => exact ns h
theorem name_inv {x : Str} (h : nameOf e = some x) : ∃ p, e = .Name x p := EV.name_inv (ev_is e) h
theorem list_inv {es : List Expr} (h : listOfE e = some es) : ∃ p, e = .List es p := EV.list_inv (ev_is e) h
end
theorem Slot.own_eq {sl : Slot} {v : V} (h : sl.own? = some v) : sl = .own v := by
  cases sl with
  | own v => exact congrArg Slot.own (Option.some.inj h)
  | _ => exact ns h
structure OwnAt (sc : Scope) (σ : St) (o : Expr) (x : Str) (c : V) : Prop where
  name : ∃ p, o = .Name x p
  debug : (x == so "__debug__") = false
  kind : sc.names.lookup x = some .local
  slot : σ.1.lookup x = some (.own c)
theorem not_true {b : Bool} (h : (!b) = true) : b = false := by cases b with | false => rfl | true => exact ft h
theorem ownName_inv {σ : St} {o : Expr} : Gv (fun p => OwnAt sc σ o p.1 p.2) (ownName sc σ o) := .bind fun _ h1 => .gdo fun h2 => .gdo fun h3 => .bind fun _ h4 => .map fun _ h5 => ⟨name_inv h1, not_true h2, loc_inv h3, by rw [h4, Slot.own_eq h5]⟩
structure CQ (B : Bs) (A : Around) (sc : Scope) (x : Expr) (σ : St) (b : Bool) (σ' : St) : Prop where
  test : BQ B A sc x σ b σ'
  val : Runs B A sc σ σ' (eval x) (PEq (Value.bool b))
theorem CPost.truthy {env : Env} {own : Bool} {σ' : St} {Rm : RM} {b : Bool} {u : Value} {s : Shared} (h : CPost B env own σ' Rm b u s) : T B A (truthy u) (Post B env own σ' (some env.locals) Rm (PEq b)) s := by
  obtain ⟨R', i, x, e⟩ := h
  rw [e]
  exact wpAny_truthy_bool ⟨R', i, x, rfl⟩
theorem cmp_one {op : CmpOp} {l x : Expr} {b : Bool} {pos : Pos} {σ σ' : St} (hm : behindInMarks op x = false) (t : TwoQ B A sc l op x σ b σ') : CQ B A sc (.Compare l [op] [x] pos) σ b σ' :=
  ⟨fun env own Rm s he I => wpAny_isTrue_Compare1 ((t env own Rm s he I).mono fun u s₁ h₁ => h₁.mono fun v y s₃ h => h.truthy) hm, fun env own Rm s he I => wpAny_Compare1 (t env own Rm s he I) hm⟩
noncomputable def FstQ (B : Bs) (A : Around) (sc : Scope) (l : Expr) (op : CmpOp) (x : Expr) (σ σ₂ : St) (c : V) (d : Bool) : Prop :=
  ∀ env own Rm s, env.scope = sc → Inv B env own σ Rm s → T B A (eval l env) (fun u s₁ => CmpT B A env op x u (fun v z s₃ => z = .bool d ∧ Post B env own σ₂ (some env.locals) Rm (PVal B.w c) v s₃) s₁) s
theorem chain_yes {l x y : Expr} {op op2 : CmpOp} {pos : Pos} {σ σ₂ σ₃ : St} {c : V} {b : Bool} (hm : behindInMarks op2 y = false) (f : FstQ B A sc l op x σ σ₂ c true) (t3 : OneQ B A sc c op2 y σ₂ b σ₃) : CQ B A sc (.Compare l [op, op2] [x, y] pos) σ b σ₃ :=
  ⟨fun env own Rm s he I => isTrue_chain ((f env own Rm s he I).mono fun u s₁ h₁ => test_link (h₁.mono fun v z s₃ ⟨e, R', i, xx, rr⟩ => e ▸ wpAny_truthy_bool (test_last ((t3 env own R' s₃ v he i rr).mono fun v' y s₅ h => (CPost.after xx h).truthy)))) hm,
    fun env own Rm s he I => Compare_chain ((f env own Rm s he I).mono fun u s₁ h₁ => chain_link (h₁.mono fun v z s₃ ⟨e, R', i, xx, rr⟩ => e ▸ wpAny_truthy_bool (chain_last ((t3 env own R' s₃ v he i rr).mono fun v' y s₅ h => CPost.after xx h)))) hm⟩
theorem chain_no {l x y : Expr} {op op2 : CmpOp} {pos : Pos} {σ σ₂ : St} {c : V} (hm : behindInMarks op2 y = false) (f : FstQ B A sc l op x σ σ₂ c false) : CQ B A sc (.Compare l [op, op2] [x, y] pos) σ false σ₂ :=
  ⟨fun env own Rm s he I => isTrue_chain ((f env own Rm s he I).mono fun u s₁ h₁ => test_link (h₁.mono fun v z s₃ ⟨e, R', i, xx, rr⟩ => by rw [e]; exact wpAny_truthy_bool ⟨R', i, xx, rfl⟩)) hm,
    fun env own Rm s he I => Compare_chain ((f env own Rm s he I).mono fun u s₁ h₁ => chain_link (h₁.mono fun v z s₃ ⟨e, R', i, xx, rr⟩ => by rw [e]; exact wpAny_truthy_bool ⟨R', i, xx, rfl⟩)) hm⟩
theorem chain2_sound (S : SoundE B A C ev sc) (rm : Room A n) (op op2 : CmpOp) (l x y : Expr) (σ : St) {pos : Pos} : Steps C (fun k => chain2 ev op op2 l x y σ k) (CQ B A sc (.Compare l [op, op2] [x, y] pos) σ) := fun k K =>
  S.v l σ _ fun a σ₁ t => S.v x σ₁ _ fun c σ₂ t2 => .cmp fun d hd => by
    have first : FstQ B A sc l op x σ σ₂ c d := fun env own Rm s he I => Runs.go t he I fun R₁ u s₁ I₁ x₁ r₁ => Runs.go t2 he I₁ fun R₂ v s₂ I₂ x₂ r₂ =>
      (cmp_sound I₂.hs rm (.of (RepV.mono x₂.le r₁)) (.of r₂) d hd).mono fun z s₃ ⟨e, tk, e'⟩ => ⟨e, R₂, e' ▸ I₂.tok tk, x₁.trans x₂, r₂⟩
    refine .br (fun e => ?_) fun e => ?_
    · rw [e] at first
      exact chain1_sound S rm c op2 y σ₂ _ fun b σ₃ h => K _ _ (chain_yes h.1 first h.2)
    · rw [e] at first
      exact .gdn fun hm => K _ _ (chain_no hm first)
theorem cmpE_sound (S : SoundE B A C ev sc) (rm : Room A n) (l : Expr) (ops : List CmpOp) (cs : List Expr) (pos : Pos) (σ : St) : Steps C (fun k => cmpE ev sc l ops cs σ k) (CQ B A sc (.Compare l ops cs pos) σ) := fun k K =>
  .els (fun b hb => .have (K _ _ (by
    obtain ⟨h1, hb⟩ := gdo_some hb
    obtain ⟨x, hx, hb⟩ := bnd hb
    obtain ⟨es, hl, hb⟩ := bnd hb
    obtain ⟨h2, hb⟩ := gdo_some hb
    obtain ⟨p, h3, hb⟩ := bnd hb
    obtain ⟨xs, h4, rfl⟩ := Option.map_eq_some_iff.mp hb
    obtain ⟨⟨q, rfl⟩, hd, hk, hs⟩ := ownName_inv p h3
    cases of_decide_eq_true h1
    cases one_inv hx
    cases List.isEmpty_iff.mp h2
    obtain ⟨pp, rfl⟩ := list_inv hl
    rw [V.list_eq h4] at hs
    exact cmp_one rfl fun env own Rm s he I => own_nil rm I hd hs))) fun _ =>
  .els (fun op ho => .opt fun x hx => by
    cases one_inv ho
    cases one_inv hx
    exact S.v l σ _ fun a σ₁ t => chain1_sound S rm a op x σ₁ _ fun b σ₂ h => K _ _ (cmp_one h.1 fun env own Rm s he I => Runs.go t he I fun R₁ u s₁ I₁ x₁ r₁ => (h.2 env own R₁ s₁ u he I₁ r₁).mono fun v y s₃ q => CPost.after x₁ q)) fun _ =>
  .opt fun p hp => .opt fun q hq => by
    cases two_inv hp
    cases two_inv hq
    exact chain2_sound S rm _ _ l _ _ σ k K
theorem headTail_inv {α : Type} {l : List α} {p : α × List α} (h : headTail l = some p) : l = p.1 :: p.2 := by
  cases l with
  | nil => exact ns h
  | cons x r => cases h; rfl
theorem boolE_sound (S : SoundB B A C ev sc) {op : BoolOp} {pos : Pos} : ∀ (es : List Expr) (x : Expr) (σ : St), Steps C (fun k => boolE ev op x es σ k) (BQ B A sc (.BoolOp op (x :: es) pos) σ)
  | [], x, σ => fun k K => S x σ _ fun b σ' t => K _ _ fun env own Rm s he I => by
    cases op with
    | And => exact isTrue_and (Runs.go t he I fun R' u s' i x e => by cases u with | true => exact isTrue_and_nil ⟨R', i, x, e⟩ | false => exact ⟨R', i, x, e⟩)
    | Or => exact isTrue_or (Runs.go t he I fun R' u s' i x e => by cases u with | true => exact ⟨R', i, x, e⟩ | false => exact isTrue_or_nil ⟨R', i, x, e⟩)
  | y :: es, x, σ => fun k K => S x σ _ fun b σ₁ t => .br (fun h => K _ _ fun env own Rm s he I => by
      cases op with
      | And => cases not_true h; exact isTrue_and (Runs.go t he I fun R' u s' i x e => by rw [e]; exact ⟨R', i, x, rfl⟩)
      | Or => cases h; exact isTrue_or (Runs.go t he I fun R' u s' i x e => by rw [e]; exact ⟨R', i, x, rfl⟩)) fun h =>
    boolE_sound S (pos := pos) es y σ₁ _ fun c σ₂ t2 => K _ _ fun env own Rm s he I => by
      cases op with
      | And => cases b with
        | false => exact ft h.symm
        | true => exact isTrue_and (Runs.go t he I fun R' u s' i x e => by rw [e]; exact Runs.go t2 he i fun R'' u s'' i' x' e => ⟨R'', i', x.trans x', e⟩)
      | Or => cases h; exact isTrue_or (Runs.go t he I fun R' u s' i x e => by rw [e]; exact Runs.go t2 he i fun R'' u s'' i' x' e => ⟨R'', i', x.trans x', e⟩)
theorem boolV_sound (S : SoundE B A C ev sc) {op : BoolOp} {pos : Pos} : ∀ (es : List Expr) (x : Expr) (σ : St), Steps C (fun k => boolV ev op x es σ k) (VQ B A sc (.BoolOp op (x :: es) pos) σ)
  | [], x, σ => fun k K => S.v x σ _ fun v σ' t => K _ _ fun env own Rm s he I => BoolOp_one (t env own Rm s he I)
  | y :: es, x, σ => fun k K => S.v x σ _ fun v σ₁ t => .opt fun b hb => by
    cases V.bool_eq hb
    refine .br (fun h => K _ _ fun env own Rm s he I => ?_) fun h => boolV_sound S (pos := pos) es y σ₁ _ fun c σ₂ t2 => K _ _ fun env own Rm s he I => ?_
    · cases op with
      | And => cases not_true h; exact BoolOp_and (Runs.go t he I fun R' u s' i x q => by cases RepV.bool_inv q rfl; exact wpAny_truthy_bool ⟨R', i, x, q⟩)
      | Or => cases h; exact BoolOp_or (Runs.go t he I fun R' u s' i x q => by cases RepV.bool_inv q rfl; exact wpAny_truthy_bool ⟨R', i, x, q⟩)
    · cases op with
      | And => cases b with
        | false => exact ft h.symm
        | true => exact BoolOp_and (Runs.go t he I fun R' u s' i x q => by cases RepV.bool_inv q rfl; exact wpAny_truthy_bool (Runs.go t2 he i fun R'' u s'' i' x' e => ⟨R'', i', x.trans x', e⟩))
      | Or => cases h; exact BoolOp_or (Runs.go t he I fun R' u s' i x q => by cases RepV.bool_inv q rfl; exact wpAny_truthy_bool (Runs.go t2 he i fun R'' u s'' i' x' e => ⟨R'', i', x.trans x', e⟩))
noncomputable def plainTest : Expr → Bool
  | .UnaryOp .. => false
  | .BoolOp .. => false
  | .Compare .. => false
  | .IfExp .. => false
  | _ => true
theorem isTrue_rest {e : Expr} (h : plainTest e = true) (env : Env) (whole : Sem Value) : isTrue e env whole = (do let v ← whole; standAt e.pos; holding [v] (truthy v)) := by
  cases e <;> first | rfl | exact ft h
theorem restB_sound {prev : Evs} (S : SoundE B A C prev sc) (x : Expr) (σ : St) (side : plainTest x = true) : Steps C (fun k => prev.v x σ fun v σ' => P.opt v.bool? fun b => k b σ') (BQ B A sc x σ) := fun k K =>
  S.v x σ _ fun v σ' t => .opt fun b hb => K _ _ fun env own Rm s he I => by
    unfold testOf
    rw [isTrue_rest side]
    exact wpAny_bind (Runs.go t he I fun R' u s' i x q => by cases RepV.bool_inv q hb; exact wpAny_bind (wpAny_standAt (wpAny_holding (wpAny_truthy_bool ⟨R', i, x, rfl⟩))))
theorem stepB_sound {prev : Scope → Evs} (S : SoundE B A C (prev sc) sc) (S2 : SoundB B A C (prev sc) sc) (rm : Room A n) (x : Expr) (σ : St) : Steps C (fun k => stepB prev sc x σ k) (BQ B A sc x σ) := fun k K => by
  cases x with
  | UnaryOp op e pos =>
    refine .gd fun h => S2 e σ _ fun b σ' t => K _ _ fun env own Rm s he I => ?_
    cases op with
    | Not => exact isTrue_not (Runs.go t he I fun R' u s' i x e => ⟨R', i, x, congrArg not e⟩)
    | _ => exact ft h
  | BoolOp op vs pos => exact .opt fun p hp => by cases headTail_inv hp; exact boolE_sound S2 p.2 p.1 σ k K
  | Compare l ops cs pos => exact cmpE_sound S rm l ops cs pos σ k fun b σ' h => K b σ' h.test
  | IfExp => exact .fail
  | _ => exact restB_sound S _ σ rfl k K
end
end Mini
namespace Mini
noncomputable def kAttr (K : Frag) : Bool := fieldTab.all fun (C, fs) => hasDictIn K C && fs.all fun a => plainGet K C a && (match findIn K (.ref C) a with | some attr => noGet K attr | none => false)
structure Facts (B : Bs) : Prop where
  gl : GlOK B
  isi : kIsi B.K = true
  attr : kAttr B.K = true
section
variable {B : Bs} {A : Around} {C : CallT} {ev : Evs} {sc : Scope} {n : Nat} {Rm : RM} {s : Shared}
theorem lift {env : Env} {own : Bool} {σ : St} {Rm R₁ : RM} {s₁ s' : Shared} {sl : Slot} {u : Value} {L : Option Addr} (I : Inv B env own σ R₁ s₁) (x : Ext L Rm R₁) (g : GivesV B R₁ sl u s') : Post B env own σ L Rm (PRes B.w sl) u s' :=
  let ⟨R', H, gr, q⟩ := g; ⟨R', I.grow H gr, x.trans (gr.ext _), q.back x⟩
theorem const_sound {c : Const} {kk : Nat} {pos : Pos} {v : V} {σ : St} (h : constV c = some v) : EQ B A sc (.Constant c kk pos) σ (.val v) σ := fun env own Rm s he I => by
  cases c with
  | none => cases h; exact fun _ _ _ => ⟨Rm, I, .refl _ _, .none⟩
  | bool b => cases h; exact fun _ _ _ => ⟨Rm, I, .refl _ _, .bool _⟩
  | int i => cases h; exact wpAny_Constant_int ⟨Rm, I.tok _, .refl _ _, .int _ _⟩
  | str x => cases h; exact Constant_str ⟨Rm, I.tok _, .refl _ _, .str _ _⟩
  | _ => exact ns h
theorem dictObj_find {w : World} {es : List DictEntry} {ep : Nat} {kvs' : List (Str × Value)} (h : DictObj (strKind PW w) (dictOf es ep) kvs') (name : Str) : (es.find? (·.key.isStr name)).map (·.val) = valueAt kvs' name := by
  obtain ⟨es', ep', _, hd, _, hp, _⟩ := h
  injection hd with h1 h2
  subst h1
  rw [← hp.find name]
  congr 2
  funext e
  exact ((strKind PW w).strs name name 0 e.key (strKind_is PW w name 0)).symm
theorem repV_handed {w : World} {Rm : RM} {v : V} {u : Value} (h : RepV w Rm v u) (hv : v.fn? = false) : handedIn u = true := by
  cases h with
  | fn n => exact ft hv.symm
  | _ => rfl
theorem lookup_mem {α β : Type} [BEq α] [LawfulBEq α] {l : List (α × β)} {a : α} {b : β} (h : l.lookup a = some b) : (a, b) ∈ l := by
  induction l with
  | nil => exact ns h
  | cons p r ih =>
    rw [List.lookup_cons] at h
    cases hx : a == p.1 with
    | true => rw [hx] at h; rw [← Option.some.inj h, eq_of_beq hx]; exact List.mem_cons_self
    | false => rw [hx] at h; exact List.mem_cons_of_mem _ (ih h)
theorem field_at {es : List DictEntry} {ep : Nat} {kvs' : List (Str × Value)} {w : World} {a : Str} {z : Value} (hd : DictObj (strKind PW w) (dictOf es ep) kvs') (hz : valueAt kvs' a = some z) : getL a es = some (some z) := by
  have := dictObj_find hd a
  rw [hz] at this
  obtain ⟨e, he, rfl⟩ := Option.map_eq_some_iff.mp this
  unfold getL
  rw [he]
theorem field_ok {K : Frag} {C : Addr} {a : Str} (hk : kAttr K = true) (hf : isField C a = true) : hasDictIn K C = true ∧ plainGet K C a = true ∧ ∃ attr, findIn K (.ref C) a = some attr ∧ noGet K attr = true := by
  unfold isField at hf
  cases hC : fieldTab.lookup C with
  | none => rw [hC] at hf; exact ft hf
  | some l =>
    rw [hC] at hf
    have q := Bool.and_eq_true_iff.mp (all_of hk (lookup_mem hC))
    have q2 := Bool.and_eq_true_iff.mp (all_of q.2 (List.contains_iff_mem.mp hf))
    cases hat : findIn K (.ref C) a with
    | none => rw [hat] at q2; exact ft q2.2
    | some attr => rw [hat] at q2; exact ⟨q.1, q2.1, attr, rfl, q2.2⟩
theorem attr_sound (H : HS B Rm s) (hk : kAttr B.K = true) {C : Addr} {fs : List (Str × V)} {u : Value} {a : Str} {v : V} (h : Seen B.w Rm s.heap (.inst C fs) u) (hf : isField C a = true) (hl : look a fs = some v) (hv : v.fn? = false) {e : Bool} :
    T B A (getAttr u a e) (GivesV B Rm (.val v)) s := by
  obtain ⟨x, d, es, ep, kvs', I, hd, hkk, hr⟩ := inst_at H h
  obtain ⟨q1, q3, attr, hat, q4⟩ := field_ok hk hf
  have lk := look_rep a hkk hr
  rw [hl] at lk
  obtain ⟨z, hz, rz⟩ := lk
  exact get_value H.K I (plainGet_of q3).1 (findObj_own q1 hat q4 (by rw [lookIn_dict]; exact field_at hd hz)) (repV_handed rz hv) (give_val H rz _)
theorem base_plain {o : Expr} (h : plainO o = true) (a : Str) (env : Env) (whole : Sem Value) : attributeBase o a env whole = whole := by
  cases o with
  | Call f args kws p =>
    cases f with
    | Name n q =>
      cases args with
      | cons => rfl
      | nil =>
        cases kws with
        | cons => rfl
        | nil => exact ft h
    | _ => rfl
  | _ => rfl
theorem attrE_sound (S : SoundE B A C ev sc) (F : Facts B) (o : Expr) (a : Str) (pos : Pos) (σ : St) : Steps C (fun k => attrE ev o a σ k) (EQ B A sc (.Attribute o a pos) σ) := fun k K =>
  .gd fun hp => S.v o σ _ fun v σ' t => .opt fun p hv => .gd fun hf => .opt fun v hl => .gdn fun hn => K _ _ fun env own Rm s he I => by
    cases V.inst_eq hv
    exact Attribute_any_ (Runs.go t he I fun R₁ u s₁ I₁ x₁ r₁ => (attr_sound I₁.hs F.attr (.of r₁) hf hl hn).mono fun y s₂ g => lift I₁ x₁ g) (by rw [arm_eval_Attribute, base_plain hp])
theorem bin_sound (S : SoundE B A C ev sc) (l r : Expr) (op : Operator) (pos : Pos) (σ : St) : Steps C (fun k => ev.v l σ fun a σ₁ => ev.v r σ₁ fun b σ₂ => P.askS (.bin op a b) fun sl => k sl σ₂) (EQ B A sc (.BinOp l op r pos) σ) := fun k K =>
  S.v l σ _ fun a σ₁ t => S.v r σ₁ _ fun b σ₂ t2 => .bin fun sl hb => K _ _ fun env own Rm s he I => wpAny_BinOp (Runs.go t he I fun R₁ u s₁ I₁ x₁ r₁ => Runs.go t2 he I₁ fun R₂ v s₂ I₂ x₂ r₂ =>
    (binop_sound I₂.hs (RepV.mono x₂.le r₁) r₂ sl hb).mono fun y s₃ g => lift I₂ (x₁.trans x₂) g)
theorem unop_sound (S : SoundE B A C ev sc) (op : UnaryOp) (e : Expr) (pos : Pos) (σ : St) : Steps C (fun k => ev.v e σ fun v σ' => P.opt (unopV op v) fun r => k (.val r) σ') (EQ B A sc (.UnaryOp op e pos) σ) := fun k K =>
  S.v e σ _ fun v σ₁ t => .opt fun r hr => K _ _ fun env own Rm s he I => by
    rw [arm_eval_UnaryOp]
    refine wpAny_bind (Runs.go t he I fun R₁ u s₁ I₁ x₁ r₁ => wpAny_bind (wpAny_standAt (wpAny_holding ?_)))
    cases op with
    | Not =>
      obtain ⟨b, hb, rfl⟩ := Option.map_eq_some_iff.mp (show v.bool?.map (fun b => V.bool (!b)) = some r from hr)
      cases RepV.bool_inv r₁ hb
      exact not_of (wpAny_truthy_bool ⟨R₁, I₁, x₁, .bool _⟩)
    | USub =>
      obtain ⟨i, hi, rfl⟩ := Option.map_eq_some_iff.mp (show v.int?.map (fun i => V.int (-i)) = some r from hr)
      obtain ⟨t, rfl⟩ := RepV.int_inv r₁ hi
      exact neg_int ⟨R₁, I₁.tok _, x₁, .int _ _⟩
    | _ => exact ns hr
theorem ifExp_sound (S : SoundE B A C ev sc) (S2 : SoundB B A C ev sc) (t a b : Expr) (pos : Pos) (σ : St) : Steps C (fun k => ev.b t σ fun c σ' => P.br c (ev.e a σ' k) (ev.e b σ' k)) (EQ B A sc (.IfExp t a b pos) σ) := fun k K =>
  S2 t σ _ fun c σ₁ tt => .br (fun e => S a σ₁ _ fun sl σ₂ t2 => K _ _ fun env own Rm s he I => IfExp_ (Runs.go tt he I fun R₁ u s₁ I₁ x₁ r₁ => by
      rw [r₁, e]; exact Runs.go t2 he I₁ fun R₂ y s₂ I₂ x₂ q => ⟨R₂, I₂, x₁.trans x₂, ResOK.back q x₁⟩)) fun e => S b σ₁ _ fun sl σ₂ t2 => K _ _ fun env own Rm s he I => IfExp_ (Runs.go tt he I fun R₁ u s₁ I₁ x₁ r₁ => by
      rw [r₁, e]; exact Runs.go t2 he I₁ fun R₂ y s₂ I₂ x₂ q => ⟨R₂, I₂, x₁.trans x₂, ResOK.back q x₁⟩)
theorem list_sound (S : SoundE B A C ev sc) (es : List Expr) (pos : Pos) (σ : St) : Steps C (fun k => ev.l es σ fun vs σ' => P.gd (fits vs.length) (k (.own (.list vs)) σ')) (EQ B A sc (.List es pos) σ) := fun k K =>
  S.l es σ _ fun vs σ₁ t => .gd fun hf => K _ _ fun env own Rm s he I => by
    rw [arm_eval_List]
    exact wpAny_bind (wpAny_standAt (wpAny_bind (Post.go (t.go env own Rm _ pos he I) fun R₁ us s₁ I₁ x₁ r₁ => wpAny_newList (lift I₁ x₁ (give_list I₁.hs r₁ _)) (by rw [RepL.length r₁]; exact fits_line hf))))
theorem tuple_sound (S : SoundE B A C ev sc) (es : List Expr) (kk : Nat) (pos : Pos) (σ : St) : Steps C (fun k => ev.l es σ fun vs σ' => P.gd (fits vs.length) (k (.val (.tuple vs)) σ')) (EQ B A sc (.Tuple es kk pos) σ) := fun k K =>
  S.l es σ _ fun vs σ₁ t => .gd fun hf => K _ _ fun env own Rm s he I => by
    rw [arm_eval_Tuple]
    exact wpAny_bind (wpAny_standAt (wpAny_bind (Post.go (t.go env own Rm _ pos he I) fun R₁ us s₁ I₁ x₁ r₁ => wpAny_newTuple (lift I₁ x₁ (give_new I₁.hs (o := { cls := .type "tuple", data := .seq us.toArray }) rfl (.tuple _ _ _ r₁) _)) (by rw [RepL.length r₁]; exact fits_line hf))))
end
end Mini
namespace Mini
theorem stored_nodup {K : Type} [DecidableEq K] {kvs : List (K × Value)} {k : K} {v : Value} (hn : (kvs.map (·.1)).Nodup) : ((stored kvs k v).map (·.1)).Nodup := by
  unfold stored
  split
  · rw [keys_map_store]; exact hn
  · rename_i h
    rw [List.map_append, List.nodup_append]
    refine ⟨hn, by simp, ?_⟩
    intro a ha b hb
    simp only [List.map_cons, List.map_nil, List.mem_singleton] at hb
    subst hb
    rintro rfl
    obtain ⟨kv, hkv, e⟩ := List.mem_map.mp ha
    exact h (List.any_eq_true.mpr ⟨kv, hkv, by simpa using e⟩)
theorem merged_rep {w : World} {R : RM} {ps : List (Str × V)} : ∀ {qs : List (Str × Value)} {kvs : List (Str × V)} {kvs' : List (Str × Value)}, ps.map (·.1) = qs.map (·.1) → RepL w R (ps.map (·.2)) (qs.map (·.2)) → (kvs'.map (·.1)).Nodup → kvs.map (·.1) = kvs'.map (·.1) → RepL w R (kvs.map (·.2)) (kvs'.map (·.2)) →
    (ps.foldl (fun a p => put p.1 p.2 a) kvs).map (·.1) = (merged kvs' qs).map (·.1) ∧ RepL w R ((ps.foldl (fun a p => put p.1 p.2 a) kvs).map (·.2)) ((merged kvs' qs).map (·.2)) := by
  induction ps with
  | nil => intro qs kvs kvs' h _ _ hk hr; rw [List.map_eq_nil_iff.mp h.symm]; exact ⟨hk, hr⟩
  | cons p ps ih =>
    intro qs kvs kvs' h r hn hk hr
    cases qs with
    | nil => exact nomatch h
    | cons q qs =>
    obtain ⟨h0, h⟩ := List.cons.inj h
    replace h0 : p.1 = q.1 := h0
    obtain ⟨u, us, e, r1, r2⟩ := r.inv
    obtain ⟨rfl, rfl⟩ := List.cons.inj e
    obtain ⟨p1, p2⟩ := put_rep p.1 r1 hn hk hr
    exact ih (kvs := put p.1 p.2 kvs) (kvs' := stored kvs' q.1 q.2) h r2 (stored_nodup hn) (h0 ▸ p1) (h0 ▸ p2)
noncomputable def pairsOf (env : Env) (pos : Pos) : List (Option Expr) → List Expr → List (Sem Value × Sem Value)
  | some k :: ks, x :: xs => (eval k env, do let v ← eval x env; standAt pos; pure v) :: pairsOf env pos ks xs
  | _, _ => []
section
variable {B : Bs} {A : Around} {C : CallT} {ev : Evs} {sc : Scope} {n : Nat}
noncomputable def PDict (w : World) (ps : List (Str × V)) (_ R' : RM) (vs : List (Value × Value)) : Prop := ∃ qs : List (Str × Value), Carries (strKind PW w) vs qs ∧ ps.map (·.1) = qs.map (·.1) ∧ RepL w R' (ps.map (·.2)) (qs.map (·.2))
structure DQ (B : Bs) (A : Around) (sc : Scope) (pos : Pos) (ks : List (Option Expr)) (xs : List Expr) (σ : St) (ps : List (Str × V)) (σ' : St) : Prop where
  shape : ∀ env, (evalEachOpt ks env).zip ((evalEach xs env).map fun v => do let x ← v; standAt pos; pure x) = (pairsOf env pos ks xs).map fun p => (some p.1, p.2)
  len : ∀ env, (pairsOf env pos ks xs).length = xs.length
  go : Runs B A sc σ σ' (fun env => evalPairs (pairsOf env pos ks xs)) (PDict B.w ps)
theorem DQ.cons {pos : Pos} {kx x : Expr} {ks : List (Option Expr)} {xs : List Expr} {σ σ₁ σ₂ σ₃ : St} {kv v : V} {st : Str} {ps : List (Str × V)} (hst : kv.str? = some st) (t : VQ B A sc kx σ kv σ₁) (t2 : VQ B A sc x σ₁ v σ₂) (t3 : DQ B A sc pos ks xs σ₂ ps σ₃) : DQ B A sc pos (some kx :: ks) (x :: xs) σ ((st, v) :: ps) σ₃ := by
  refine ⟨fun env => ?_, fun env => congrArg (· + 1) (t3.len env), fun env own Rm s he I => ?_⟩
  · show (some (eval kx env) :: evalEachOpt ks env).zip ((eval x env :: evalEach xs env).map _) = _
    rw [List.map_cons, List.zip_cons_cons, t3.shape env]
    rfl
  · refine evalPairs_cons (Runs.go t he I fun R₁ u s₁ I₁ x₁ r₁ => wpAny_bind (Runs.go t2 he I₁ fun R₂ u2 s₂ I₂ x₂ r₂ => wpAny_bind (wpAny_standAt (wpAny_pure (Runs.go t3.go he I₂ fun R₃ vs s₃ I₃ x₃ ⟨qs, hc, hk, hr⟩ => ?_)))))
    obtain ⟨tk, rfl⟩ := RepV.str_inv r₁ hst
    exact ⟨R₃, I₃, (x₁.trans x₂).trans x₃, (st, u2) :: qs, ⟨strKind_is _ _ _ _, rfl, hc⟩, congrArg (st :: ·) hk, .cons _ _ _ _ (RepV.mono x₃.le r₂) hr⟩
theorem dictE_sound (S : SoundE B A C ev sc) (pos : Pos) : ∀ (ks : List (Option Expr)) (xs : List Expr) (σ : St) (acc : List (Str × V)), Steps C (fun k => dictE ev ks xs σ acc k) (fun kvs σ' => ∃ ps, kvs = ps.foldl (fun a p => put p.1 p.2 a) acc ∧ DQ B A sc pos ks xs σ ps σ')
  | [], xs, σ, acc => fun k K => .gd fun h0 => by
    cases List.isEmpty_iff.mp h0
    exact K _ _ ⟨[], rfl, fun _ => rfl, fun _ => rfl, fun env own Rm s he I => evalPairs_nil ⟨Rm, I, .refl _ _, [], trivial, rfl, .nil⟩⟩
  | o :: ks, xs, σ, acc => fun k K => .opt fun kx ho => .opt fun p hp => S.v kx σ _ fun kv σ₁ t => .opt fun st hst => S.v p.1 σ₁ _ fun v σ₂ t2 => dictE_sound S pos ks p.2 σ₂ _ _ fun kvs σ₃ ⟨ps, e, q⟩ => K _ _ ⟨(st, v) :: ps, e, by
      rw [ho, headTail_inv hp]
      exact q.cons hst t t2⟩
theorem temp_set {env : Env} {own : Bool} {σ : St} {Rm R₁ : RM} {s : Shared} {L : Option Addr} {a : Addr} {v v' : V} {o : Obj} {h' : Heap} {tk : Nat} (I : Inv B env own σ R₁ s) (ha : R₁ a = some (.temp v)) (hz : (a == sysModules) = false)
    (hs : ∀ b o, b ≠ a → s.heap.get? b = some o → h'.get? b = some o) (ho : h'.get? a = some o) (hr : RepO B.w R₁ v' o) (x : Ext L Rm R₁) (hn : Rm a = none) :
    Post B env own σ L Rm (PRes B.w (.own v')) (.ref a) { s with heap := h', toks := tk } := by
  have le : Le R₁ (upd R₁ a (.temp v')) := le_upd ha rfl fun _ e => ns e
  have C := I.hs.swap (sp' := .temp v') (tk := tk) ha rfl rfl hs ⟨o, ho, hr.mono le, hz⟩ (.inl rfl) rfl rfl
  have ne : ∀ {b q}, Rm b = some q → upd R₁ a (.temp v') b = R₁ b := fun e => upd_ne _ _ fun q => by rw [q, hn] at e; exact ns e
  refine ⟨_, ⟨C.1, I.fm.le le fun b q e hq => upd_keep ha e (inFrame_tag hq), I.rg.ext_same (upd_reg_iff ha rfl rfl)⟩, ⟨fun b q e => (x.dom b q e).imp fun q' e' => (ne e).trans e', fun b q e => ?_⟩, a, rfl, upd_same .., hn⟩
  have h1 := x.old b q e
  have hb := ne e
  cases q with
  | reg r z => exact h1.imp fun z' h2 => hb.trans h2
  | var L' y z => exact fun n => hb.trans (h1 n)
  | _ => exact hb.trans h1
theorem dict_empty {pos : Pos} {σ : St} : EQ B A sc (.Dict [] [] pos) σ (.own (.dictS [])) σ := fun env own Rm s he I => wpAny_Dict_empty (lift I (.refl _ _) (give_own I.hs rfl (dict_new s.heap) _))
theorem dict_some {ks : List (Option Expr)} {xs : List Expr} {pos : Pos} {σ σ₁ : St} {ps : List (Str × V)} (h0 : xs ≠ []) (hlen : xs.length ≤ 15) (t : DQ B A sc pos ks xs σ ps σ₁) : EQ B A sc (.Dict ks xs pos) σ (.own (.dictS (ps.foldl (fun a p => put p.1 p.2 a) []))) σ₁ := fun env own Rm s he I => by
  have H1 := I.hs.alloc (o := { cls := .type "dict", data := .dict #[] }) (sp := .temp (.dictS [])) rfl ⟨_, Heap.get?_push_size _ rfl, dict_new s.heap, I.hs.sm⟩ (fun _ e => ns e) rfl
  have g1 : Grow Rm _ := .upd (sp := .temp (.dictS [])) I.hs.fresh rfl
  have hne : pairsOf env pos ks xs ≠ [] := fun q => h0 (by have := t.len env; rw [q] at this; exact (List.eq_nil_of_length_eq_zero this.symm))
  refine wpAny_Dict_pairs (knd := strKind PW B.w) (t.shape env) hne (by rw [t.len env]; exact hlen) (Runs.go t.go he (I.grow H1 g1) fun R₁ vs s₁ I₁ x₁ ⟨qs, hc, hk, hr⟩ => ?_)
  have hR : R₁ s.heap.objs.size = some (.temp (.dictS [])) := x₁.temp (upd_same ..)
  obtain ⟨o, ho, hro, hz⟩ := I₁.hs.holds _ _ hR
  obtain ⟨kvs', hd, hk0, hr0⟩ := DictHas.of ho hro
  cases List.map_eq_nil_iff.mp hk0.symm
  refine ⟨qs, hc, hd, fun h' hd' hs => ?_⟩
  obtain ⟨m1, m2⟩ := merged_rep (kvs := []) (kvs' := []) hk hr List.nodup_nil rfl .nil
  obtain ⟨o', ho', hr'⟩ := DictHas.obj ⟨_, hd', m1, m2⟩
  exact temp_set (Rm := Rm) I₁ hR hz (fun b o hb e => (hs.2 b hb).trans e) ho' hr' (Ext.trans (g1.ext _) x₁) I.hs.fresh
theorem dict_sound (S : SoundE B A C ev sc) (ks : List (Option Expr)) (xs : List Expr) (pos : Pos) (σ : St) : Steps C (fun k => P.gd (Nat.ble xs.length 15) (dictE ev ks xs σ [] fun kvs σ' => k (.own (.dictS kvs)) σ')) (EQ B A sc (.Dict ks xs pos) σ) := fun k K => .gd fun hf => by
  cases xs with
  | nil =>
    cases ks with
    | nil => exact K _ _ dict_empty
    | cons a b => cases a <;> exact .fail
  | cons x xs => exact dictE_sound S pos ks _ σ [] _ fun kvs σ₁ ⟨ps, e, t⟩ => K _ _ (e ▸ dict_some (List.cons_ne_nil _ _) (Nat.le_of_ble_eq_true hf) t)
end
end Mini
namespace Mini
theorem RepL.at {w : World} {R : RM} {xs : List V} : ∀ {us : List Value} (i : Nat), RepL w R xs us → Finds w R xs[i]? us[i]? := by
  induction xs with
  | nil => intro us i h; rw [h.nil_inv]; rfl
  | cons v r ih =>
    intro us i h
    obtain ⟨u, us, rfl, h1, h2⟩ := h.inv
    cases i with
    | zero => exact ⟨u, rfl, h1⟩
    | succ i => rw [List.getElem?_cons_succ, List.getElem?_cons_succ]; exact ih i h2
theorem nth_eq {xs : List V} : ∀ {i : Nat}, nth xs i = xs[i]? := by
  induction xs with
  | nil => intro i; rfl
  | cons v r ih =>
    intro i
    cases i with
    | zero => rfl
    | succ i => rw [List.getElem?_cons_succ]; exact ih
theorem RepL.nth {w : World} {R : RM} {xs : List V} {us : List Value} {i : Nat} {v : V} (h : RepL w R xs us) (e : nth xs i = some v) : ∃ u, us[i]? = some u ∧ RepV w R v u := by
  have := h.at i
  rw [← nth_eq, e] at this
  exact this
theorem RepL.pick {w : World} {R : RM} {xs : List V} {us : List Value} (h : RepL w R xs us) (is : List Nat) : RepL w R (is.filterMap (xs[·]?)) (is.filterMap (us[·]?)) := by
  induction is with
  | nil => exact .nil
  | cons i is ih =>
    have := h.at i
    cases hx : xs[i]? with
    | none => rw [hx] at this; rw [List.filterMap_cons_none hx, List.filterMap_cons_none this]; exact ih
    | some v => rw [hx] at this; obtain ⟨u, hu, r⟩ := this; rw [List.filterMap_cons_some hx, List.filterMap_cons_some hu]; exact .cons _ _ _ _ r ih
theorem look_get {w : World} {R : RM} {K : Type} [DecidableEq K] {k : K} {kvs : List (K × V)} {kvs' : List (K × Value)} {v : V} (e : look k kvs = some v) (h : kvs.map (·.1) = kvs'.map (·.1)) (r : RepL w R (kvs.map (·.2)) (kvs'.map (·.2))) : ∃ x, valueAt kvs' k = some x ∧ RepV w R v x := by
  have := look_rep k h r
  rw [e] at this
  exact this
section
variable {B : Bs} {A : Around} {R : RM} {s : Shared} {n : Nat}
structure ItemQ (B : Bs) (A : Around) (R : RM) (s : Shared) (cu ku : Value) (v : V) : Prop where
  has : ∃ Tn id, s.TypeIs cu Tn ∧ typeLookup (.type Tn) "__getitem__" = pure (some (.builtin id))
  go : T B A (getItem cu ku) (fun u s' => RepV B.w R v u ∧ ∃ t, s' = { s with toks := t }) s
theorem getItem_sound (H : HS B R s) {c k : V} {cu ku : Value} (hc : Seen B.w R s.heap c cu) (hk : RepV B.w R k ku) : Gv (ItemQ B A R s cu ku) (getItemM c k) := by
  cases c with
  | list xs =>
    refine .bind fun i hi => .gdo fun h0 => .gdo fun hf v e => ?_
    have h0 := of_decide_eq_true h0
    have hf := fits_size hf
    obtain ⟨l, items, ep, rfl, hl, hr⟩ := hc.list H rfl
    obtain ⟨t, rfl⟩ := hk.int_inv hi
    obtain ⟨u, hu, ru⟩ := hr.nth e
    exact ⟨⟨"list", _, ⟨_, hl, rfl⟩, slot_list_getitem.lookup⟩, wpAny_getItem_list hl.isList h0 (by omega) (by rw [List.getElem?_toArray]; exact hu) ⟨ru, _, rfl⟩⟩
  | tuple xs =>
    refine .bind fun i hi => .gdo fun h0 => .gdo fun hf v e => ?_
    have h0 := of_decide_eq_true h0
    have hf := fits_size hf
    obtain ⟨l, items, rfl, hl, hr⟩ := hc.tuple H rfl
    obtain ⟨t, rfl⟩ := hk.int_inv hi
    obtain ⟨u, hu, ru⟩ := hr.nth e
    have hlt := (List.getElem?_eq_some_iff.mp hu).1
    exact ⟨⟨"tuple", _, (show IsTup s.heap l _ from hl).typeIs, slot_tuple_getitem.lookup⟩, getItem_tuple (items := items.toArray) hl (by omega) (by omega) (seqIndex_of h0 (by rw [List.size_toArray]; omega)) (by rw [List.getElem?_toArray]; exact hu) ⟨ru, _, rfl⟩⟩
  | dictS xs =>
    refine .bind fun x hx v e => ?_
    obtain ⟨d, kvs', rfl, hz, hd, hkk, hr⟩ := hc.dictS H rfl
    obtain ⟨t, rfl⟩ := hk.str_inv hx
    obtain ⟨x, hx, rx⟩ := look_get e hkk hr
    exact ⟨⟨"dict", _, hd.typeIs, slot_dict_getitem.lookup⟩, wpAny_getItem_of (strKind_is _ _ _ t) hd.mapOf hx ⟨rx, _, rfl⟩⟩
  | dictI xs =>
    refine .bind fun x hx v e => ?_
    obtain ⟨d, kvs', rfl, hz, hd, hkk, hr⟩ := hc.dictI H
    obtain ⟨t, rfl⟩ := hk.int_inv hx
    obtain ⟨x, hx, rx⟩ := look_get e hkk hr
    exact ⟨⟨"dict", _, hd.typeIs, slot_dict_getitem.lookup⟩, wpAny_getItem_of (intKind_is _ _ _ t) hd.mapOf hx ⟨rx, _, rfl⟩⟩
  | _ => exact .none
end
theorem subscripted_eq (slice : Expr) (o i : Value) : subscripted slice false o i = operate [o, i] (getItem o i) ∨ subscripted slice false o i = operate [i, o] (getItem o i) := by
  cases slice with
  | Slice l u st p => cases st <;> first | exact .inr rfl | exact .inl rfl
  | _ => exact .inl rfl
section
variable {B : Bs} {A : Around} {C : CallT} {ev : Evs} {sc : Scope} {n : Nat}
theorem sub_any {value slice : Expr} {pos : Pos} {env : Env} {s : Shared} {Q : Value → Shared → Prop}
    (h : T B A (eval value env) (fun o s₁ => T B A (eval slice env) (fun i s₂ => (∃ Tn id, s₂.TypeIs o Tn ∧ typeLookup (.type Tn) "__getitem__" = pure (some (.builtin id))) ∧ T B A (getItem o i) Q s₂) s₁) s) : T B A (eval (.Subscript value slice pos) env) Q s := by
  refine Subscript_ (T.mono h fun o s₁ h₁ => T.mono h₁ fun i s₂ h₂ => ?_)
  obtain ⟨⟨Tn, id, hT, hl⟩, h₂⟩ := h₂
  unfold subscriptTail
  refine wpAny_bind ?_
  rw [getitemInPython_of_ne hT.not_modules]
  refine wpAny_bind (wpAny_specialOf hT hl ?_)
  have fin : T B A (subscripted slice false o i) (fun r s₃ => T B A (letTemporaryGo value o r >>= fun _ => pure r) Q s₃) s₂ := by
    rcases subscripted_eq slice o i with e | e <;> rw [e] <;> exact wpAny_operating (T.mono h₂ fun r s₃ h₃ => wpAny_bind (wpAny_letTemporaryGo (wpAny_pure h₃)))
  first
    | exact wpAny_pure (wpAny_bind fin)
    | exact wpAny_bind (wpAny_pure (wpAny_bind fin))
    | exact wpAny_bind fin
theorem sliceMade_post {x : Str} {t : Tok} {l u : Option (Int × Tok)} {Q : Str → Value → Shared → Prop} {s : Shared} (h : ∀ r t' tk, Q r (.str r t') { s with toks := tk }) : Gv (fun r => (sliceMade x t l u none).post (Q r) s) (sliceS x (l.map (·.1)) (u.map (·.1))) := by
  have e1 : slicePicked x l u none = sliceIs (l.map (·.1)) (u.map (·.1)) x.length := rfl
  unfold sliceMade
  rw [e1]
  refine .br (fun hq => .some ?_) fun hq => .gdo fun hf => .some ?_
  · rw [if_pos (by rw [hq]; rfl)]
    exact h _ t s.toks
  · rw [if_neg (by rw [hq, Bool.and_false]; exact Bool.false_ne_true)]
    exact ⟨fits_line hf, h _ _ _⟩
theorem slice_at {lo up st : Option Expr} {p : Pos} {env : Env} {s : Shared} {Q : Value → Shared → Prop} (h : T B A (evalPart lo env) (fun l s₁ => T B A (evalPart up env) (fun u s₂ => T B A (evalPart st env) (fun z s₃ => Q (.ref s₃.heap.objs.size) { s₃ with heap := s₃.heap.push { cls := .type "slice", data := .fields #[l, u, z] } }) s₂) s₁) s) :
    T B A (eval (.Slice lo up st p) env) Q s := wpAny_Slice h
theorem garb {env : Env} {own : Bool} {σ : St} {R' : RM} {s : Shared} {o : Obj} (I : Inv B env own σ R' s) : HS B R' { s with heap := s.heap.push o } := I.hs.kept (fun b o e => Heap.get?_push_of_some _ e) rfl rfl
theorem cut_sound {v kv : V} {f : Int → Option Int × Option Int} {env : Env} {own : Bool} {σ₂ : St} {Rm R₁ R₂ : RM} {s₂ : Shared} {u ku z : Value} {o : Obj} (I₂ : Inv B env own σ₂ R₂ s₂) (x₁ : Ext (some env.locals) Rm R₁) (x₂ : Ext (some env.locals) R₁ R₂) (r₁ : RepV B.w R₁ v u) (r₂ : RepV B.w R₂ kv ku)
    (h : ∀ i t, ku = .int i t → ∃ l u : Option (Int × Tok), f i = (l.map (·.1), u.map (·.1)) ∧ (∀ x tk Q, (sliceMade x tk l u none).post Q { s₂ with heap := s₂.heap.push o } → T B A (getItem (.str x tk) z) Q { s₂ with heap := s₂.heap.push o })) :
    Gv (fun r => (∃ Tn id, Shared.TypeIs { s₂ with heap := s₂.heap.push o } u Tn ∧ typeLookup (.type Tn) "__getitem__" = pure (some (.builtin id))) ∧ T B A (getItem u z) (Post B env own σ₂ (some env.locals) Rm (PRes B.w (.val r))) { s₂ with heap := s₂.heap.push o }) (sliceAt v kv f) := .bind fun x hx => .bind fun i hi => by
  obtain ⟨tk, rfl⟩ := RepV.str_inv r₁ hx
  obtain ⟨tk', rfl⟩ := RepV.int_inv r₂ hi
  obtain ⟨l, u, e, h⟩ := h i tk' rfl
  rw [e]
  exact .mapG fun q hq => ⟨⟨"str", _, typeIs_str _ _ _, F.slot_str_getitem.lookup⟩, h x tk _ (sliceMade_post (Q := fun r u s => Post B env own σ₂ (some env.locals) Rm (PRes B.w (.val (.str r))) u s) (fun r t' tk => lift I₂ (x₁.trans x₂) (give_val (garb I₂) (.str _ t') tk)) q hq)⟩
theorem slice_lo {value l : Expr} {p pos : Pos} {σ σ₁ σ₂ : St} {v kv r : V} (t : VQ B A sc value σ v σ₁) (t2 : VQ B A sc l σ₁ kv σ₂) (h : sliceAt v kv (fun i => (some i, none)) = some r) : EQ B A sc (.Subscript value (.Slice (some l) none none p) pos) σ (.val r) σ₂ := fun env own Rm s he I =>
  sub_any (Runs.go t he I fun R₁ u s₁ I₁ x₁ r₁ => slice_at (Runs.go t2 he I₁ fun R₂ ku s₂ I₂ x₂ r₂ => by
    rw [evalPart_none]
    exact wpAny_pure (wpAny_pure (cut_sound I₂ x₁ x₂ r₁ r₂ (fun i t e => by subst e; exact ⟨some (i, t), none, rfl, fun x tk Q hQ => wpAny_getItem_str_slice (l := some (i, t)) (u := none) (st := none) ⟨_, Heap.get?_push_size _ rfl, rfl, rfl⟩ rfl hQ⟩) r h))))
theorem slice_up {value l : Expr} {p pos : Pos} {σ σ₁ σ₂ : St} {v kv r : V} (t : VQ B A sc value σ v σ₁) (t2 : VQ B A sc l σ₁ kv σ₂) (h : sliceAt v kv (fun i => (none, some i)) = some r) : EQ B A sc (.Subscript value (.Slice none (some l) none p) pos) σ (.val r) σ₂ := fun env own Rm s he I =>
  sub_any (Runs.go t he I fun R₁ u s₁ I₁ x₁ r₁ => slice_at (by
    rw [evalPart_none]
    exact wpAny_pure (Runs.go t2 he I₁ fun R₂ ku s₂ I₂ x₂ r₂ => wpAny_pure (cut_sound I₂ x₁ x₂ r₁ r₂ (fun i t e => by subst e; exact ⟨none, some (i, t), rfl, fun x tk Q hQ => wpAny_getItem_str_slice (l := none) (u := some (i, t)) (st := none) ⟨_, Heap.get?_push_size _ rfl, rfl, rfl⟩ rfl hQ⟩) r h))))
theorem minus_inv {e : Expr} (h : minusOne e = true) : ∃ p1 p2 kk, e = .UnaryOp .USub (.Constant (.int 1) kk p1) p2 := by
  unfold minusOne at h
  cases hn : (evOf e).neg? with
  | none => rw [hn] at h; exact ft h
  | some x =>
    rw [hn] at h
    obtain ⟨p, rfl⟩ := EV.neg_inv (ev_is e) hn
    obtain ⟨kk, q, rfl⟩ := EV.one_inv (ev_is x) h
    exact ⟨_, _, _, rfl⟩
theorem slice_back {value e : Expr} {p pos : Pos} {σ σ₁ : St} {v : V} {xs : List V} (t : VQ B A sc value σ v σ₁) (hm : minusOne e = true) (hx : v.list? = some xs) (hf : fits xs.length = true) : EQ B A sc (.Subscript value (.Slice none none (some e) p) pos) σ (.own (.list (backwards xs))) σ₁ := fun env own Rm s he I => by
  obtain ⟨p1, p2, kk, rfl⟩ := minus_inv hm
  refine sub_any (Runs.go t he I fun R₁ u s₁ I₁ x₁ r₁ => slice_at ?_)
  rw [evalPart_none]
  refine wpAny_pure (wpAny_pure ?_)
  show T B A (eval (.UnaryOp .USub (.Constant (.int 1) kk p1) p2) env) _ s₁
  rw [arm_eval_UnaryOp]
  refine wpAny_bind (wpAny_Constant_int (wpAny_bind (wpAny_standAt (wpAny_holding (neg_int ?_)))))
  obtain ⟨l, items, ep, rfl, hl, hr⟩ := (Seen.of (h := s₁.heap) r₁).list I₁.hs hx
  have hl' : ∀ o : Obj, (s₁.heap.push o).IsList l items.toArray := fun o => ⟨_, Heap.get?_push_of_some _ hl, rfl, ep, rfl⟩
  refine ⟨⟨"list", _, (hl' _).typeIs, slot_list_getitem.lookup⟩, wpAny_getItem_list_slice (hl' _) (Heap.IsSliceOf.new _ _ _ _) .none .none (.int _ _) (by decide) ?_ (by have := fits_line hf; have := hr.length; simp; omega)⟩
  have e2 : slicePick items.toArray none none (some (-1)) = ((backIs xs.length).filterMap (items[·]?)).toArray := by
    unfold slicePick backIs
    rw [List.size_toArray, hr.length]
    congr 1
    simp
  have := lift (Rm := Rm) (L := some env.locals) (I₁.tok (s₁.toks + 1 + 1)) x₁ (give_list (garb (o := { cls := .type "slice", data := .fields #[Value.none, Value.none, Value.int (-1) (s₁.toks + 1)] }) (I₁.tok (s₁.toks + 1 + 1))) (hr.pick (backIs xs.length)) (s₁.toks + 1 + 1))
  rw [← e2] at this
  exact this
theorem none_of {α : Type} {o : Option α} (h : o.isNone = true) : o = none := by cases o with | none => rfl | some => exact ft h
theorem sliceE_sound (S : SoundE B A C ev sc) {value : Expr} {lo up st : Option Expr} {p pos : Pos} {v : V} {σ σ₁ : St} (t : VQ B A sc value σ v σ₁) : Steps C (fun k => sliceE ev v lo up st σ₁ k) (EQ B A sc (.Subscript value (.Slice lo up st p) pos) σ) := fun k K => by
  cases st with
  | some e => exact .gd fun hm => .gd fun h1 => .gd fun h2 => .opt fun xs hx => .gd fun hf => by cases none_of h1; cases none_of h2; exact K _ _ (slice_back t hm hx hf)
  | none =>
    cases lo with
    | some l => exact .gd fun h => S.v l σ₁ _ fun kv σ₂ t2 => .opt fun r hr => by cases none_of h; exact K _ _ (slice_lo t t2 hr)
    | none => exact .opt fun l h => S.v l σ₁ _ fun kv σ₂ t2 => .opt fun r hr => by cases h; exact K _ _ (slice_up t t2 hr)
theorem subE_sound (S : SoundE B A C ev sc) (o i : Expr) (pos : Pos) (σ : St) : Steps C (fun k => subE ev o i σ k) (EQ B A sc (.Subscript o i pos) σ) := fun k K =>
  .els (fun q hq => S.v o σ _ fun v σ₁ t => by obtain ⟨p, rfl⟩ := EV.slice_inv (ev_is i) hq; exact sliceE_sound S t k K) fun _ =>
  S.v o σ _ fun v σ₁ t => S.v i σ₁ _ fun kv σ₂ t2 => .opt fun c hc => .get fun x hx => K _ _ fun env own Rm s he I => sub_any (Runs.go t he I fun R₁ u s₁ I₁ x₁ r₁ => Runs.go t2 he I₁ fun R₂ ku s₂ I₂ x₂ r₂ =>
    let ⟨a, b⟩ := getItem_sound (A := A) I₂.hs (deref_seen I₂ (RepV.mono x₂.le r₁) c hc) r₂ x hx
    ⟨a, b.mono fun y s₃ ⟨ry, tk, e⟩ => by rw [e]; exact ⟨R₂, I₂.tok tk, x₁.trans x₂, ry⟩⟩)
end
end Mini
namespace Mini
inductive CallOK (B : Bs) : Value → Prop
  | builtin (id : String) : CallOK B (.builtin id)
  | type (T : String) : CallOK B (.type T)
  | own (f : Value) : keepIn B.K f = true → CallOK B f
section
variable {B : Bs} {A : Around} {C : CallT} {ev : Evs} {sc : Scope} {n : Nat}
theorem backTo_any {pos : Pos} : ∀ {l : List (Bool × Sem Value)}, l.any (·.1) = false → (backTo pos l).any (·.1) = false := fun {l} h => by
  unfold backTo
  rw [List.any_map]
  exact h
theorem evalArgs_any {f : Value} {l : List (Bool × Sem Value)} {s : Shared} {Q : Args → Shared → Prop} (hl : l.any (·.1) = false) (h : T B A (spliced l) (fun vs s' => Q ⟨vs, []⟩ s') s) : T B A (evalArgs f true l []) Q s := by
  cases l with
  | nil =>
    unfold evalArgs
    show T B A (spliced [] >>= _) Q s
    refine wpAny_bind (T.mono h fun vs s' h' => ?_)
    refine wpAny_bind (wpAny_pure ?_)
    refine wpAny_holding ?_
    exact wpAny_bind (wpAny_pure (wpAny_bind (wpAny_pure (wpAny_pure h'))))
  | cons x r =>
    obtain ⟨b, x⟩ := x
    have : b = false := by simpa using (List.any_eq_false.mp hl (b, x) List.mem_cons_self)
    subst this
    exact evalArgs_plain h
theorem callWith_any {f : Value} {first : List Value} {l : List (Bool × Sem Value)} {pos : Pos} {s : Shared} {Q : Value → Shared → Prop} (hc : CallOK B f) (hl : l.any (·.1) = false)
    (h : T B A (spliced l) (fun us s₁ => B.K.In s₁.heap ∧ T B A (call f (first ++ us)) Q s₁) s) : T B A (callWith pos f first l []) Q s := by
  cases hc with
  | builtin id => exact callWith_builtin hl (evalArgs_any hl (T.mono h fun us s₁ h₁ => h₁.2))
  | type T' => exact PyProof.Rows.callWith_type hl (evalArgs_any hl (T.mono h fun us s₁ h₁ => h₁.2))
  | own f hk => exact callWith_of (P := fun h => B.K.In h) (by rw [hl]; rfl) (keeps_K hk) (evalArgs_any hl h)
noncomputable def SoundC (B : Bs) (A : Around) (C : CallT) : Prop := ∀ a vs μ p, C a vs μ = some p → keepIn B.K (.ref a) = true ∧ ∀ R s us, HS B R s → RegsOK R μ → RepL B.w R vs us →
  T B A (call (.ref a) us) (fun u s' => ∃ R', HS B R' s' ∧ RegsOK R' p.2 ∧ Ext none R R' ∧ ResOK B.w R R' p.1 u) s
noncomputable def callable : Value → Bool
  | .builtin _ => true
  | .type _ => true
  | _ => false
theorem CallOK.of {f : Value} (h : callable f = true) : CallOK B f := by
  cases f with
  | builtin id => exact .builtin id
  | type T => exact .type T
  | _ => exact ft h
theorem prim_callable : ∀ k, k < 19 → callable (primVal k) = true := by decide
structure CallQ (B : Bs) (A : Around) (f : V) (vs : List V) (σ : St) (sl : Slot) (σ' : St) : Prop where
  ok : ∀ Rm fu, RepV B.w Rm f fu → CallOK B fu
  go : ∀ env own Rm s fu us, Inv B env own σ Rm s → RepV B.w Rm f fu → RepL B.w Rm vs us → T B A (call fu us) (Post B env own σ' (some env.locals) Rm (PRes B.w sl)) s
theorem callM_sound (hC : SoundC B A C) (F : Facts B) (rm : Room A n) (f : V) (vs : List V) (σ : St) : Steps C (fun k => callM f vs σ k) (CallQ B A f vs σ) := fun k K => by
  cases f with
  | fn m => exact .prim fun sl hp => K _ _ ⟨fun Rm fu hf => by
      rw [show fu = primVal m from hf.flat]
      obtain ⟨g, hg, _⟩ := bnd hp
      exact .of (prim_callable m (List.getElem?_eq_some_iff.mp hg).1), fun env own Rm s fu us I hf hu => by
      rw [show fu = primVal m from hf.flat]
      exact (prim_sound I.hs F.isi rm hu sl hp).mono fun u s' g => lift I (.refl _ _) g⟩
  | stat a => exact .call fun p hp => K _ _ ⟨fun Rm fu hf => by
      rw [show fu = .ref a from hf.flat]
      exact .own _ (hC _ _ _ _ hp).1, fun env own Rm s fu us I hf hu => by
      rw [show fu = .ref a from hf.flat]
      exact ((hC _ _ _ _ hp).2 Rm s us I.hs I.rg hu).mono fun u s' ⟨R', H', G', x, q⟩ => ⟨R', ⟨H', I.fm.ext x, G'⟩, x.weaken, q⟩⟩
  | _ => exact .fail
theorem not_debug {nm : Str} {v : V} (h : gl nm = some v) : (nm == so "__debug__") = false := by
  cases hd : nm == so "__debug__" with
  | false => rfl
  | true =>
    rw [eq_of_beq hd, show gl (so "__debug__") = none by kernel_rfl] at h
    exact ns h
theorem call1_inv {e : Expr} : Gv (fun p => (∃ q pos, e = .Call (.Name p.1 q) [p.2] [] pos) ∧ sc.names.lookup p.1 = some .globalImplicit ∧ isStarred p.2 = false) (call1 sc e) := .bind fun p hp => .gdo fun h0 => .bind fun n hn => .bind fun x hx => .gdo fun hg => .gdo fun hs => .some ⟨by
    obtain ⟨kws, pos, rfl, e⟩ := EV.call_inv (ev_is e) hp
    obtain ⟨q, e2⟩ := name_inv hn
    rw [e, List.isEmpty_iff] at h0
    exact ⟨q, pos, by rw [h0, e2, one_inv hx]⟩, glob_inv hg, not_true hs⟩
theorem call_name (F : Facts B) {nm : Str} {p : Pos} {args : List Expr} {pos : Pos} {env : Env} {own : Bool} {σ : St} {Rm : RM} {s : Shared} {v : V} {Q : Value → Shared → Prop} (I : Inv B env own σ Rm s) (hk : env.kindOf nm = some .globalImplicit) (hv : gl nm = some v)
    (h : ∀ fu, RepV B.w Rm v fu → T B A (callWith pos fu [] (backTo pos (starEach args env)) []) Q s) : T B A (eval (.Call (.Name nm p) args [] pos) env) Q s := Call_Name rfl (load_global F.gl I hk hv (not_debug hv) h)
theorem len_set (F : Facts B) (rm : Room A n) {p p2 pos pos2 : Pos} {e : Expr} {σ σ₁ : St} {v r : V} {xs : List V} (hk : sc.names.lookup (so "len") = some .globalImplicit) (hk2 : sc.names.lookup (so "set") = some .globalImplicit) (hst : isStarred e = false) (t : VQ B A sc e σ v σ₁) (hx : v.list? = some xs) (hr : lenset xs = some r) :
    EQ B A sc (.Call (.Name (so "len") p) [.Call (.Name (so "set") p2) [e] [] pos2] [] pos) σ (.val r) σ₁ := fun env own Rm s he I => by
  obtain ⟨hf, hr⟩ := gdo_some hr
  obtain ⟨m, hm, rfl⟩ := Option.map_eq_some_iff.mp hr
  refine call_name F I (kind_of he hk) (show gl (so "len") = some (.fn 0) by kernel_rfl) fun fu hfu => ?_
  rw [show fu = .builtin "len" from hfu.flat, starEach_of _ _ rfl]
  refine callWith_any (.builtin _) rfl (spliced_cons ?_)
  refine call_name F I (kind_of he hk2) (show gl (so "set") = some (.fn 12) by kernel_rfl) fun fu hfu => ?_
  rw [show fu = .type "set" from hfu.flat, starEach_of _ _ hst]
  refine callWith_any (.type _) rfl (spliced_cons (Runs.go t he I fun R₁ u s₁ I₁ x₁ r₁ => spliced_nil ⟨I₁.hs.K, ?_⟩))
  cases V.list_eq hx
  exact T.mono (lenset_sound I₁.hs rm (Nat.le_of_ble_eq_true hf) hm (.of r₁)) fun v' s₂ h₂ => spliced_nil ⟨h₂.1, T.mono h₂.2 fun x s₃ g => lift I₁ x₁ g⟩
theorem callName_sound (S : SoundE B A C ev sc) (hC : SoundC B A C) (F : Facts B) (rm : Room A n) (nm : Str) (p : Pos) (args : List Expr) (pos : Pos) (σ : St) : Steps C (fun k => callNameE ev sc nm args σ k) (EQ B A sc (.Call (.Name nm p) args [] pos) σ) := fun k K =>
  .gd fun hk => .opt fun fv hfv => .els (fun e hs => S.v e σ _ fun v σ₁ t => .opt fun xs hx => .lenset fun r hr => K _ _ (by
    obtain ⟨hn, hs⟩ := gdo_some hs
    obtain ⟨a, ha, hs⟩ := bnd hs
    obtain ⟨q, hq, hs⟩ := bnd hs
    obtain ⟨hn2, hs⟩ := gdo_some hs
    cases hs
    obtain ⟨⟨p2, pos2, rfl⟩, hk2, hst⟩ := call1_inv q hq
    rw [eq_of_beq hn] at hk ⊢
    rw [one_inv ha]
    rw [eq_of_beq hn2] at hk2 ⊢
    exact len_set F rm (glob_inv hk) hk2 hst t hx hr)) fun _ =>
  S.l args σ _ fun vs σ₁ t => callM_sound hC F rm fv vs σ₁ _ fun sl σ₂ q => K _ _ fun env own Rm s he I => call_name F I (kind_of he (glob_inv hk)) hfv fun fu hfu =>
    callWith_any (q.ok Rm fu hfu) (backTo_any (t.nos env)) (Post.go (t.go env own Rm s pos he I) fun R₁ us s₁ I₁ x₁ r₁ => ⟨I₁.hs.K, Post.go (q.go env own R₁ s₁ fu us I₁ (hfu.mono x₁.le) r₁) fun R₂ u s₂ I₂ x₂ q => ⟨R₂, I₂, x₁.trans x₂, ResOK.back q x₁⟩⟩)
end
end Mini
namespace Mini
noncomputable def opId : OwnM → String
  | .append => "list.append" | .extend => "list.extend" | .pop => "list.pop" | .update => "dict.update" | .get => "dict.get"
noncomputable def kMeth (K : Frag) : Bool := methTab.all fun (C, ms) => ms.all fun (m, f) => plainGet K C m && findIn K (.ref C) m == some (some (.ref f)) && typeIn K (.ref f) == some (.type "function") && keepIn K (.ref f)
theorem RepL.snoc_inv {w : World} {R : RM} {xs : List V} {y : V} {us : List Value} (h : RepL w R (xs ++ [y]) us) : ∃ us' u, us = us' ++ [u] ∧ RepL w R xs us' ∧ RepV w R y u := by
  induction xs generalizing us with
  | nil =>
    obtain ⟨u, rfl, h1⟩ := h.one rfl
    exact ⟨[], u, rfl, .nil, h1⟩
  | cons x r ih =>
    obtain ⟨u, us, rfl, h1, h2⟩ := h.inv
    obtain ⟨us', z, rfl, h3, h4⟩ := ih h2
    exact ⟨u :: us', z, rfl, .cons _ _ _ _ h1 h3, h4⟩
section
variable {B : Bs} {A : Around} {R : RM} {s : Shared} {n : Nat}
inductive OwnKind : OwnM → Str → String → Prop
  | append : OwnKind .append (so "append") "list"
  | extend : OwnKind .extend (so "extend") "list"
  | pop : OwnKind .pop (so "pop") "list"
  | update : OwnKind .update (so "update") "dict"
  | get : OwnKind .get (so "get") "dict"
theorem kind_list {m : Str} {op : OwnM} (e : [(so "append", OwnM.append), (so "extend", .extend), (so "pop", .pop)].lookup m = some op) : OwnKind op m "list" := by
  have := lookup_mem e
  rcases List.mem_cons.mp this with e | this
  · cases e; exact .append
  rcases List.mem_cons.mp this with e | this
  · cases e; exact .extend
  · cases List.mem_singleton.mp this; exact .pop
theorem kind_dict {m : Str} {op : OwnM} (e : [(so "update", OwnM.update), (so "get", .get)].lookup m = some op) : OwnKind op m "dict" := by
  have := lookup_mem e
  rcases List.mem_cons.mp this with e | this
  · cases e; exact .update
  · cases List.mem_singleton.mp this; exact .get
theorem own_type {w : World} {m : Str} {c : V} {op : OwnM} {o : Obj} (e : ownOp m c = some op) (r : RepO w R c o) : ∃ T, o.cls = .type T ∧ o.dict = none ∧ OwnKind op m T := by
  cases c with
  | list xs => obtain ⟨_, _, rfl, _⟩ := r.inv; exact ⟨_, rfl, rfl, kind_list e⟩
  | dictS xs => obtain ⟨_, ⟨_, _, ⟨h1, h2, _⟩, _⟩, _⟩ := r.inv; exact ⟨_, h1, h2, kind_dict e⟩
  | dictI xs => obtain ⟨_, ⟨_, _, ⟨h1, h2, _⟩, _⟩, _⟩ := r.inv; exact ⟨_, h1, h2, kind_dict e⟩
  | _ => exact ns e
theorem own_get {m : Str} {c : V} {op : OwnM} {o : Obj} {a : Addr} {pl : Sem Bool} {Q : Value × List Value → Shared → Prop} (e : ownOp m c = some op) (ho : s.heap.get? a = some o) (r : RepO B.w R c o) (h : Q (.builtin (opId op), [.ref a]) s) : T B A (getMethod (.ref a) m pl) Q s := by
  obtain ⟨T', h1, h2, k⟩ := own_type e r
  have noDict : ∀ b, Value.ref a = .ref b → ∃ ob, s.heap.get? b = some ob ∧ ob.dict = none := fun b q => by cases q; exact ⟨o, ho, h2⟩
  cases k with
  | append => exact getMethod_builtin ⟨o, ho, h1⟩ F.plainAttrs_list F.slot_list_append F.type_list_append noDict h
  | extend => exact getMethod_builtin ⟨o, ho, h1⟩ F.plainAttrs_list F.slot_list_extend F.type_list_extend noDict h
  | pop => exact getMethod_builtin ⟨o, ho, h1⟩ F.plainAttrs_list F.slot_list_pop F.type_list_pop noDict h
  | update => exact getMethod_builtin ⟨o, ho, h1⟩ F.plainAttrs_dict F.slot_dict_update F.type_dict_update noDict h
  | get => exact getMethod_builtin ⟨o, ho, h1⟩ F.plainAttrs_dict F.slot_dict_get F.type_dict_get noDict h
inductive SetAt (B : Bs) (R : RM) (s : Shared) (a : Addr) (c' res : V) (u : Value) : Shared → Prop
  | mk (o' : Obj) (h' : Heap) (tk : Nat) (ho : h'.get? a = some o') (hr : RepO B.w R c' o') (hs : ∀ b o, b ≠ a → s.heap.get? b = some o → h'.get? b = some o) (hu : RepV B.w R res u) : SetAt B R s a c' res u { s with heap := h', toks := tk }
theorem setAt_list {a : Addr} {items items' : List Value} {ep : Nat} {xs : List V} {res : V} {u : Value} {f : Array Value → Array Value} (hl : IsL s.heap a items.toArray ep) (hf : f items.toArray = items'.toArray) (hr : RepL B.w R xs items') (hu : RepV B.w R res u) :
    SetAt B R s a (.list xs) res u { s with heap := s.heap.update a (Obj.mapSeq f) } :=
  ⟨_, _, s.toks, hl.update f, by rw [hf]; exact .list _ _ _ hr, fun b o hb e => (Heap.get?_update_other _ _ (Ne.symm hb)).trans e, hu⟩
theorem get_rep {K : Type} [DecidableEq K] {k : K} {kvs : List (K × V)} {kvs' : List (K × Value)} {d : V} {x : Value} (hk : kvs.map (·.1) = kvs'.map (·.1)) (hr : RepL B.w R (kvs.map (·.2)) (kvs'.map (·.2))) (hx : RepV B.w R d x) : RepV B.w R ((look k kvs).getD d) ((valueAt kvs' k).getD x) := by
  have := look_rep k hk hr
  cases hl : look k kvs with
  | none => rw [hl] at this; rw [show valueAt kvs' k = none from this]; exact hx
  | some y => rw [hl] at this; obtain ⟨z, hz, hrz⟩ := this; rw [hz]; exact hrz
theorem RepO.list_of {c : V} {o : Obj} {xs : List V} (r : RepO B.w R c o) (e : c.list? = some xs) : ∃ items ep, o = { cls := .type "list", data := .seq (List.toArray items) ep } ∧ RepL B.w R xs items := by cases V.list_eq e; exact r.inv
theorem empty_dict {o : Obj} {w : World} (h : DictObj (strKind PW w) o []) : DictObj (intKind PW w) o [] := by
  obtain ⟨es, ep, a1, a2, a3, a4, a5⟩ := h
  have hes : es = #[] := Array.eq_empty_of_size_eq_zero (by rw [← Array.length_toList]; exact a4.length)
  rw [hes] at a2
  exact ⟨#[], ep, a1, a2, fun _ he => absurd he (Array.not_mem_empty _), .nil, List.nodup_nil⟩
section
variable (H : HS B R s) {c : V} {o : Obj} {a : Addr} {vs : List V} {us : List Value} (ho : s.heap.get? a = some o) (hz : (a == sysModules) = false) (r : RepO B.w R c o) (hnf : ∀ o', R a ≠ some (.frozen o'))
noncomputable def Does (B : Bs) (A : Around) (R : RM) (s : Shared) (a : Addr) (op : OwnM) (us : List Value) (p : V × V) : Prop := T B A (call (.builtin (opId op)) (.ref a :: us)) (SetAt B R s a p.1 p.2) s
include ho r
theorem do_append (h : RepL B.w R vs us) : Gv (Does B A R s a .append us) (ownDo .append c vs) := .bind fun xs hx => .bind fun v hv => .mapG (.gdo fun hf => .some (by
  obtain ⟨items, ep, rfl, hr⟩ := r.list_of hx
  obtain ⟨u, rfl, h1⟩ := h.one hv
  have hl : IsL s.heap a items.toArray ep := ho
  exact call_meets F.slot_list_append ⟨_, ho, rfl⟩ F.entry_list_append (F.args_list_append_2 _ _) (list_append a items.toArray ep u (by rw [List.size_toArray, hr.length]; exact Nat.le_trans (Nat.le_add_right _ _) (fits_line hf))) ⟨hl, setAt_list hl (List.push_toArray ..) (hr.append (.cons _ _ _ _ h1 .nil)) .none⟩))
include H
theorem do_extend (h : RepL B.w R vs us) : Gv (Does B A R s a .extend us) (ownDo .extend c vs) := .bind fun xs hx => .bind fun v hv => .bind fun ys hy => .mapG (.gdo fun hf => .some (by
  obtain ⟨items, ep, rfl, hr⟩ := r.list_of hx
  obtain ⟨u, rfl, h1⟩ := h.one hv
  obtain ⟨b, items2, ep2, rfl, hl2, hr2⟩ := (Seen.of (h := s.heap) h1).list H hy
  have hl : IsL s.heap a items.toArray ep := ho
  have hlen := hr.length
  have hlen2 := hr2.length
  have hfl := fits_size hf
  have hsz : items.toArray.size + items2.toArray.size ≤ 16000000 := by rw [List.size_toArray, List.size_toArray, hlen, hlen2]; exact hfl
  exact call_meets F.slot_list_extend ⟨_, ho, rfl⟩ F.entry_list_extend (F.args_list_extend_2 _ _) (AutoSeq1.list_extend_list_list_0 a items.toArray ep b items2.toArray ep2 (by simp [Builtin.List.listTooLong, sizeLine]; omega) (by rw [sizeLine_eq]; omega) (by rw [sizeLine_eq]; omega)) ⟨hl, hl2, setAt_list hl (List.append_toArray ..) (hr.append hr2) .none⟩))
omit H in
theorem do_pop (h : RepL B.w R vs us) : Gv (Does B A R s a .pop us) (ownDo .pop c vs) := .bind fun xs hx => .gdo fun h0 => .gdo fun hf p e => by
  unfold lastOf at e
  cases hrev : xs.reverse with
  | nil => rw [hrev] at e; exact ns e
  | cons y q =>
    rw [hrev] at e
    cases e
    have hxs := congrArg List.reverse hrev
    rw [List.reverse_reverse, List.reverse_cons] at hxs
    cases List.isEmpty_iff.mp h0
    cases h.nil_inv
    obtain ⟨items, ep, rfl, hr⟩ := r.list_of hx
    rw [hxs] at hr
    obtain ⟨us', u, rfl, h3, h4⟩ := hr.snoc_inv
    have hl : IsL s.heap a (us' ++ [u]).toArray ep := ho
    have hn : (us' ++ [u]).toArray.size = us'.length + 1 := by rw [List.size_toArray, List.length_append]; rfl
    have e3 : (us' ++ [u]).toArray.eraseIdxIfInBounds ((us' ++ [u]).toArray.size - 1) = us'.toArray := by
      apply Array.ext'
      simp
      rw [List.eraseIdx_append_of_length_le (Nat.le_refl _)]
      simp
    exact call_meets F.slot_list_pop ⟨_, ho, rfl⟩ F.entry_list_pop (F.args_list_pop_1 _) (MeetsSeq.list_pop_last a (us' ++ [u]).toArray ep u (by rw [hn]; simp) (by rw [List.size_toArray, hr.length, ← hxs]; exact fits_line hf)) ⟨hl, setAt_list hl e3 h3 h4⟩
include hnf
theorem do_update (h : RepL B.w R vs us) : Gv (Does B A R s a .update us) (ownDo .update c vs) := .bind fun xs hx => .bind fun v hv => .bind fun ys hy => .gdo fun hf => .some (by
  cases V.dictS_eq hx
  obtain ⟨kvs', h1', h2', h3'⟩ := r.inv
  obtain ⟨u, rfl, h1⟩ := h.one hv
  have hd : s.heap.DictOf (strKind PW B.w) a kvs' := dictOf_iff.mpr ⟨o, ho, h1'⟩
  obtain ⟨b, more, rfl, hzb, hdb, hkb, hrb⟩ := (Seen.of (h := s.heap) h1).dictS H hy
  have hne : a ≠ b := fun q => by
    cases V.dictS_eq hy
    obtain ⟨_, o', e, _, hR, _⟩ := h1.box rfl
    cases e
    exact hnf o' (q ▸ hR)
  have l1 := congrArg List.length h2'
  have l2 := congrArg List.length hkb
  rw [List.length_map, List.length_map] at l1 l2
  refine call_meetsIn F.slot_dict_update hd.typeIs F.entry_dict_update (F.args_dict_update_2 _ _) (meets_dict_update (strKind PW B.w) a b hne hzb) ⟨kvs', more, hd, hdb, by rw [← l1, ← l2]; exact fits_line hf, fun h' hd' _ hs => ?_⟩
  obtain ⟨m1, m2⟩ := merged_rep hkb hrb (dictOf_nodup hd) h2' h3'
  obtain ⟨o', ho', hr'⟩ := DictHas.obj ⟨_, hd', m1, m2⟩
  exact ⟨o', h', s.toks, ho', hr', fun b o hb e => (hs.2 b hb).trans e, .none⟩)
omit hnf H
include hz
theorem do_get (h : RepL B.w R vs us) : Gv (Does B A R s a .get us) (ownDo .get c vs) := .bind fun p hp => by
  obtain ⟨ku, v, rfl, h1, h2⟩ := h.two hp
  have same : ∀ {x : Value} {t : Nat} {res : V}, RepV B.w R res x → SetAt B R s a c res x { s with toks := t } := fun hx => ⟨o, s.heap, _, ho, r, fun _ _ _ e => e, hx⟩
  cases c with
  | dictS xs =>
    obtain ⟨kvs', h1', h2', h3'⟩ := r.inv
    unfold ownGet
    cases hk : p.1 with
    | str k =>
      rw [hk] at h1
      have hd : s.heap.DictOf (strKind PW B.w) a kvs' := dictOf_iff.mpr ⟨o, ho, h1'⟩
      obtain ⟨t, rfl⟩ := h1.str_inv rfl
      exact .some (call_meetsIn F.slot_dict_get hd.typeIs F.entry_dict_get (F.args_dict_get_3 _ _ _) (meets_dict_get_default (strKind PW B.w) a (strKind_is _ _ _ t) hz v) ⟨_, hd.mapOf, same (get_rep h2' h3' h2)⟩)
    | int k =>
      rw [hk] at h1
      refine .gdo fun h0 => .some ?_
      obtain ⟨t, rfl⟩ := h1.int_inv rfl
      rw [List.isEmpty_iff.mp h0] at h2'
      rw [List.map_eq_nil_iff.mp h2'.symm] at h1'
      have hd : s.heap.DictOf (intKind PW B.w) a [] := dictOf_iff.mpr ⟨o, ho, empty_dict h1'⟩
      exact call_meetsIn F.slot_dict_get hd.typeIs F.entry_dict_get (F.args_dict_get_3 _ _ _) (meets_dict_get_default (intKind PW B.w) a (intKind_is _ _ _ t) hz v) ⟨_, hd.mapOf, same h2⟩
    | _ => exact .none
  | dictI xs =>
    obtain ⟨kvs', h1', h2', h3'⟩ := r.inv
    refine .map fun k hk => ?_
    have hd : s.heap.DictOf (intKind PW B.w) a kvs' := dictOf_iff.mpr ⟨o, ho, h1'⟩
    obtain ⟨t, rfl⟩ := h1.int_inv hk
    exact call_meetsIn F.slot_dict_get hd.typeIs F.entry_dict_get (F.args_dict_get_3 _ _ _) (meets_dict_get_default (intKind PW B.w) a (intKind_is _ _ _ t) hz v) ⟨_, hd.mapOf, same (get_rep h2' h3' h2)⟩
  | _ => exact .none
include H hnf
theorem own_do {op : OwnM} (h : RepL B.w R vs us) : Gv (Does B A R s a op us) (ownDo op c vs) := by
  cases op with
  | append => exact do_append ho r h
  | extend => exact do_extend H ho r h
  | pop => exact do_pop ho r h
  | update => exact do_update H ho r hnf h
  | get => exact do_get ho hz r h
end
end
section
variable {B : Bs} {A : Around} {C : CallT} {ev : Evs} {sc : Scope} {n : Nat}
theorem starEach_len : ∀ (es : List Expr) (env : Env), (starEach es env).length = es.length
  | [], _ => rfl
  | e :: es, env => by
    have ih := starEach_len es env
    cases e <;> exact congrArg (· + 1) ih
theorem method_any {o : Expr} {m : Str} {apos pos : Pos} {args : List Expr} {env : Env} {s : Shared} {Q : Value → Shared → Prop} (hp : plainO o = true) (hl : methLine apos pos args = true) (nos : (starEach args env).any (·.1) = false)
    (h : T B A (eval o env) (fun ov s₁ => ∃ f first, (∀ (pl : Sem Bool) (Q' : Value × List Value → Shared → Prop), Q' (f, first) s₁ → T B A (getMethod ov m pl) Q' s₁) ∧ CallOK B f ∧
      T B A (spliced (backTo pos (starEach args env))) (fun us s₂ => B.K.In s₂.heap ∧ T B A (call f (first ++ us)) Q s₂) s₁) s) :
    T B A (eval (.Call (.Attribute o m apos) args [] pos) env) Q s := by
  obtain ⟨h1, h2⟩ := Bool.and_eq_true_iff.mp hl
  rw [arm_eval_Call, base_plain hp]
  refine wpAny_bind (T.mono h fun ov s₁ ⟨f, first, hg, hc, h₁⟩ => wpAny_bind (wpAny_standAt ?_))
  have hform : methodCallForm (args.length + ([] : List Keyword).length) (backTo pos (starEach args env)) (backToKw pos (keywordEach [] env)) = true := by
    unfold methodCallForm
    have a1 : (backTo pos (starEach args env)).all (fun x => !x.1) = true := by
      have := backTo_any (pos := pos) nos
      rw [List.all_eq_not_any_not]
      simpa using this
    rw [a1]
    have h2 : args.length < 20 := by simpa [Nat.blt_eq] using h2
    rw [show backToKw pos (keywordEach [] env) = [] from rfl]
    simp
    omega
  have hpos : methodCallPos true o env apos pos = pure pos := by unfold methodCallPos; simp [h1]
  unfold methodCall
  rw [hform]
  refine wpAny_bind (wpAny_holding (hg _ _ ?_))
  exact wpAny_bind (wpAny_of_eq hpos (callWith_any hc (backTo_any nos) h₁))
theorem muGet_lt {r : Nat} {v : V} {μ : Mu} (h : muGet μ r = some v) : r < μ.length := by
  induction μ generalizing r with
  | nil => exact ns h
  | cons x q ih =>
    cases r with
    | zero => exact Nat.zero_lt_succ _
    | succ r => exact Nat.succ_lt_succ (ih h)
theorem RegsOK.put {Rm : RM} {μ : Mu} {a : Addr} {sp sp' : Spec} {r : Nat} {c' : V} (I : RegsOK Rm μ) (ha : Rm a = some sp) (hr : ∀ q, sp.regNo = some q → q = r) (hlt : r < μ.length) (hs : sp' = .reg r c' ∨ (c' = .fn 99 ∧ ∃ o, sp' = .held r o)) : RegsOK (upd Rm a sp') (muSet μ r c') := by
  refine ⟨by rw [muSet_length]; exact I.len, fun q v e => ?_, fun q e b => ?_⟩
  · rw [muGet_set _ _ _ _ hlt] at e
    by_cases hq : q = r
    · rw [if_pos hq] at e
      rw [← Option.some.inj e, hq]
      exact ⟨a, _, upd_same .., hs⟩
    · rw [if_neg hq] at e
      obtain ⟨b, q', hb, hsp⟩ := I.here q v e
      refine ⟨b, q', (upd_ne _ _ fun hba => ?_).trans hb, hsp⟩
      rw [hba, ha] at hb
      rw [Option.some.inj hb] at hr
      exact hq (hr q (by rcases hsp with e | ⟨_, o, e⟩ <;> rw [e] <;> rfl))
  · rw [muGet_set _ _ _ _ hlt] at e
    by_cases hq : q = r
    · rw [if_pos hq] at e; exact nomatch e
    · rw [if_neg hq] at e
      rintro ⟨sp, hb, hsp⟩
      rcases upd_or hb with h | h
      · rw [h.2] at hsp
        have : sp'.regNo = some r := by rcases hs with e | ⟨_, o, e⟩ <;> rw [e] <;> rfl
        exact hq (Option.some.inj (hsp.symm.trans this))
      · exact I.gone q e b ⟨sp, h.2, hsp⟩
theorem ext_reg {L : Option Addr} {Rm : RM} {a : Addr} {r : Nat} {c c' : V} (ha : Rm a = some (.reg r c)) : Ext L Rm (upd Rm a (.reg r c')) := by
  refine ⟨fun b q e => ?_, fun b q e => ?_⟩
  · by_cases hb : b = a
    · exact ⟨_, by rw [hb, upd_same]⟩
    · exact ⟨q, by rw [upd_ne _ _ hb]; exact e⟩
  · by_cases hb : b = a
    · rw [hb, ha] at e; rw [← Option.some.inj e, hb]; exact ⟨c', upd_same ..⟩
    · exact .of (by rw [upd_ne _ _ hb]; exact e)
theorem reg_set {env : Env} {own : Bool} {σ : St} {Rm : RM} {s : Shared} {a : Addr} {r : Nat} {c c' res : V} {u : Value} {s' : Shared} (I : Inv B env own σ Rm s) (ha : Rm a = some (.reg r c)) (hm : muGet σ.2 r = some c) (h : SetAt B Rm s a c' res u s') :
    Post B env own (σ.1, muSet σ.2 r c') (some env.locals) Rm (PVal B.w res) u s' := by
  obtain ⟨o', h', tk, ho', hr', hs, hu⟩ := h
  obtain ⟨_, _, _, hz⟩ := I.hs.holds a _ ha
  have le : Le Rm (upd Rm a (.reg r c')) := le_upd ha rfl fun _ e => e
  have C := I.hs.change (sp' := .reg r c') (tk := tk) ha rfl hs ⟨o', ho', hr'.mono le, hz⟩ (fun e => nomatch e) (fun _ e => ns e) (fun _ e => e) (fun _ e => .inl e)
  exact ⟨_, ⟨C.1, I.fm.le le fun b q e hq => upd_keep ha e (by cases q <;> first | rfl | exact hq.elim), I.rg.put ha (fun q e => (Option.some.inj e).symm) (muGet_lt hm) (.inl rfl)⟩, ext_reg ha, hu.mono le⟩
theorem ns_ne {R : RM} {a L : Addr} {x : Str} {v : V} {s : Shared} (H : HS B R s) (ha : R a = some (.var L x v)) : L ≠ a := fun q => by
  obtain ⟨m, hm⟩ := H.own a _ L ha rfl
  rw [q, ha] at hm
  injection hm with hm
  exact nomatch hm
theorem own_set {env : Env} {own : Bool} {σ : St} {Rm : RM} {s : Shared} {a : Addr} {x : Str} {c c' res : V} {u : Value} {s' : Shared} (I : Inv B env own σ Rm s) (hx : σ.1.lookup x = some (.own c)) (hv : VarAt Rm env x (some (.ref a))) (ha : Rm a = some (.var env.locals x c)) (h : SetAt B Rm s a c' res u s') :
    Post B env own (setv σ.1 x (.own c'), σ.2) (some env.locals) Rm (PVal B.w res) u s' := by
  obtain ⟨o', h', tk, ho', hr', hs, hu⟩ := h
  obtain ⟨_, _, _, hz⟩ := I.hs.holds a _ ha
  have le : Le Rm (upd Rm a (.var env.locals x c')) := le_upd ha rfl fun _ e => ns e
  have C := I.hs.swap (sp' := .var env.locals x c') (tk := tk) ha rfl rfl hs ⟨o', ho', hr'.mono le, hz⟩ (.inr ⟨_, rfl, rfl, ns_ne I.hs ha⟩) rfl rfl
  exact ⟨_, ⟨C.1, I.fm.own_upd ha le (fun ov p _ => ⟨a, (p.back rfl rfl).det hv, upd_same ..⟩) hx, I.rg.ext_same (upd_reg_iff ha rfl rfl)⟩, ext_upd_own ha, hu.mono le⟩
noncomputable def MethAt (B : Bs) (A : Around) (env : Env) (own : Bool) (Rm : RM) (σ' : St) (sl : Slot) (m : Str) (args : List Expr) (pos : Pos) (ov : Value) (s₁ : Shared) : Prop :=
  ∃ f first, (∀ (pl : Sem Bool) (Q' : Value × List Value → Shared → Prop), Q' (f, first) s₁ → T B A (getMethod ov m pl) Q' s₁) ∧ CallOK B f ∧
    T B A (spliced (backTo pos (starEach args env))) (fun us s₂ => B.K.In s₂.heap ∧ T B A (call f (first ++ us)) (Post B env own σ' (some env.locals) Rm (PRes B.w sl)) s₂) s₁
noncomputable def MethQ (B : Bs) (A : Around) (sc : Scope) (σ : St) (v : V) (m : Str) (args : List Expr) (pos : Pos) (sl : Slot) (σ' : St) : Prop :=
  (∀ env, (starEach args env).any (·.1) = false) ∧ ∀ env own Rm R₁ s u, env.scope = sc → Inv B env own σ R₁ s → Ext (some env.locals) Rm R₁ → RepV B.w R₁ v u → MethAt B A env own Rm σ' sl m args pos u s
theorem meth_end {o : Expr} {m : Str} {apos pos : Pos} {args : List Expr} {σ σ₁ σ' : St} {v : V} {sl : Slot} (hp : plainO o = true) (hl : methLine apos pos args = true) (t : VQ B A sc o σ v σ₁) (q : MethQ B A sc σ₁ v m args pos sl σ') : EQ B A sc (.Call (.Attribute o m apos) args [] pos) σ sl σ' := fun env own Rm s he I =>
  method_any hp hl (q.1 env) (Runs.go t he I fun R₁ u s₁ I₁ x₁ r₁ => q.2 env own Rm R₁ s₁ u he I₁ x₁ r₁)
theorem methReg_sound (S : SoundE B A C ev sc) (r : Nat) (m : Str) (args : List Expr) (pos : Pos) (σ : St) : Steps C (fun k => methReg ev r m args σ k) (MethQ B A sc σ (.reg r) m args pos) := fun k K =>
  .opt fun c₀ hc₀ => .opt fun op hop => S.l args σ _ fun vs σ₂ t2 => .opt fun c hc => .own fun p hdo => K _ _ ⟨t2.nos, fun env own Rm R₁ s₁ u he I₁ x₁ r₁ => by
    obtain ⟨a, rfl, ha, _⟩ := regVal_at I₁ r₁ hc₀
    obtain ⟨ob, hob, hro, _⟩ := I₁.hs.holds a _ ha
    refine ⟨_, _, fun pl Q' hq => own_get hop hob hro hq, .builtin _, Post.go (t2.go env own R₁ s₁ pos he I₁) fun R₂ us s₂ I₂ x₂ r₂ => ⟨I₂.hs.K, ?_⟩⟩
    obtain ⟨a', e', ha', hm'⟩ := regVal_at I₂ (r₁.mono x₂.le) hc
    cases e'
    obtain ⟨ob', hob', hro', hz⟩ := I₂.hs.holds a _ ha'
    exact T.mono (own_do I₂.hs hob' hz hro' (fun o' q => tag_ne (ha'.symm.trans q) rfl) r₂ p hdo) fun u s₃ g => (reg_set I₂ ha' hm' g).val (x₁.trans x₂)⟩
theorem meth_ok {K : Frag} {C f : Addr} {m : Str} (hM : kMeth K = true) (hf : methOf C m = some f) : plainGet K C m = true ∧ findIn K (.ref C) m = some (some (.ref f)) ∧ typeIn K (.ref f) = some (.type "function") ∧ keepIn K (.ref f) = true := by
  obtain ⟨l, hK, hf⟩ := bnd hf
  have q := all_of (all_of hM (lookup_mem hK)) (lookup_mem hf)
  obtain ⟨q, q4⟩ := Bool.and_eq_true_iff.mp q
  obtain ⟨q, q3⟩ := Bool.and_eq_true_iff.mp q
  obtain ⟨q1, q2⟩ := Bool.and_eq_true_iff.mp q
  exact ⟨q1, beq_iff_eq.mp q2, beq_iff_eq.mp q3, q4⟩
theorem no_refs {es : List DictEntry} {ep : Nat} {kvs' : List (Str × Value)} {w : World} (hd : DictObj (strKind PW w) (dictOf es ep) kvs') : es.any (·.refKey) = false := by
  obtain ⟨es', ep', _, hdt, hks, _, _⟩ := hd
  injection hdt with e1 e2
  rw [List.any_eq_false]
  intro e he' hrk
  obtain ⟨kk, hkk, _⟩ := hks e (by rw [← e1]; exact List.mem_toArray.mpr he')
  obtain ⟨tk, hk'⟩ := Value.isStrOf_shape hkk
  unfold DictEntry.refKey at hrk
  rw [hk'] at hrk
  exact ft hrk
theorem no_shadow {es : List DictEntry} {ep : Nat} {kvs' : List (Str × Value)} {w : World} {m : Str} (hd : DictObj (strKind PW w) (dictOf es ep) kvs') (h : valueAt kvs' m = none) : shadowIn (some (dictOf es ep)) m = some false := by
  show (lookIn m (dictOf es ep)).map _ = _
  rw [lookIn_dict]
  have hfd := dictObj_find hd m
  rw [h, Option.map_eq_none_iff] at hfd
  unfold getL
  rw [hfd]
  dsimp only
  rw [no_refs hd]
  rfl
theorem methInst_sound (S : SoundE B A C ev sc) (hC : SoundC B A C) (F : Facts B) (hM : kMeth B.K = true) (rm : Room A n) (K₀ : Addr) (fs : List (Str × V)) (m : Str) (args : List Expr) (pos : Pos) (σ : St) : Steps C (fun k => methInst ev K₀ fs m args σ k) (MethQ B A sc σ (.inst K₀ fs) m args pos) := fun k K =>
  .opt fun f hf => .gd fun hlk => S.l args σ _ fun vs σ₂ t2 => callM_sound hC F rm _ _ σ₂ _ fun sl σ₃ q => K _ _ ⟨t2.nos, fun env own Rm R₁ s₁ u he I₁ x₁ r₁ => by
    obtain ⟨a, d, es, ep, kvs', IA, hd, hkk, hr⟩ := inst_at I₁.hs (.of r₁)
    obtain ⟨q1, q2, q3, q4⟩ := meth_ok hM hf
    have lk := look_rep m hkk hr
    rw [none_of hlk] at lk
    exact ⟨.ref f, [.ref a], fun pl Q' hq => method_fn I₁.hs.K IA (plainGet_of q1).1 (plainGet_of q1).2 q2 q3 (no_shadow hd lk) hq, .own _ q4, Post.go (t2.go env own R₁ s₁ pos he I₁) fun R₂ us s₂ I₂ x₂ r₂ => ⟨I₂.hs.K, T.mono (q.go env own R₂ s₂ (.ref f) (.ref a :: us) I₂ (.stat f) (.cons _ _ _ _ (r₁.mono x₂.le) r₂)) fun u s₃ g => g.res (x₁.trans x₂)⟩⟩⟩
theorem bm_at {m : Str} {v : V} {f : Nat} {R₁ : RM} {s₁ : Shared} {u : Value} (H : HS B R₁ s₁) (hf : builtinMeth m v = some f) (r₁ : RepV B.w R₁ v u) : (∀ (pl : Sem Bool) (Q' : Value × List Value → Shared → Prop), Q' (primVal f, [u]) s₁ → T B A (getMethod u m pl) Q' s₁) ∧ CallOK B (primVal f) := by
  cases v with
  | str x =>
    obtain ⟨tk, rfl⟩ := r₁.str_inv rfl
    have := lookup_mem (show [(so "join", 15), (so "rfind", 16), (so "isdigit", 17)].lookup m = some f from hf)
    rcases List.mem_cons.mp this with e | this
    · cases e; exact ⟨fun pl Q' hq => GM.join hq, .builtin _⟩
    rcases List.mem_cons.mp this with e | this
    · cases e; exact ⟨fun pl Q' hq => GM.rfind hq, .builtin _⟩
    · cases List.mem_singleton.mp this; exact ⟨fun pl Q' hq => GM.isdigit hq, .builtin _⟩
  | dictS kvs =>
    obtain ⟨a, o, rfl, ho, hro, hz⟩ := (Seen.of (h := s₁.heap) r₁).obj H rfl
    cases List.mem_singleton.mp (lookup_mem (show [(so "get", 18)].lookup m = some f from hf))
    exact ⟨fun pl Q' hq => own_get (op := .get) (m := so "get") rfl ho hro hq, .builtin _⟩
  | _ => exact ns hf
theorem methPrim_sound (S : SoundE B A C ev sc) (hC : SoundC B A C) (F : Facts B) (rm : Room A n) (v : V) (m : Str) (args : List Expr) (pos : Pos) (σ : St) : Steps C (fun k => P.opt (builtinMeth m v) fun f => ev.l args σ fun vs σ₂ => callM (.fn f) (v :: vs) σ₂ k) (MethQ B A sc σ v m args pos) := fun k K =>
  .opt fun f hf => S.l args σ _ fun vs σ₂ t2 => callM_sound hC F rm _ _ σ₂ _ fun sl σ₃ q => K _ _ ⟨t2.nos, fun env own Rm R₁ s₁ u he I₁ x₁ r₁ =>
    let ⟨hg, ok⟩ := bm_at I₁.hs hf r₁
    ⟨primVal f, [u], hg, ok, Post.go (t2.go env own R₁ s₁ pos he I₁) fun R₂ us s₂ I₂ x₂ r₂ => ⟨I₂.hs.K, T.mono (q.go env own R₂ s₂ (primVal f) (u :: us) I₂ (.fn f) (.cons _ _ _ _ (r₁.mono x₂.le) r₂)) fun u s₃ g => g.res (x₁.trans x₂)⟩⟩⟩
theorem methGen_sound (S : SoundE B A C ev sc) (hC : SoundC B A C) (F : Facts B) (hM : kMeth B.K = true) (rm : Room A n) (o : Expr) (m : Str) (apos pos : Pos) (args : List Expr) (σ : St) (hp : plainO o = true) (hl : methLine apos pos args = true) :
    Steps C (fun k => methGen ev o m args σ k) (EQ B A sc (.Call (.Attribute o m apos) args [] pos) σ) := fun k K => S.v o σ _ fun v σ₁ t => by
  have K' : ∀ b σ', MethQ B A sc σ₁ v m args pos b σ' → Go C _ (k b σ') := fun b σ' q => K b σ' (meth_end hp hl t q)
  cases v with
  | reg r => exact methReg_sound S r m args pos σ₁ k K'
  | inst K₀ fs => exact methInst_sound S hC F hM rm K₀ fs m args pos σ₁ k K'
  | _ => exact methPrim_sound S hC F rm _ m args pos σ₁ k K'
theorem methOwn_sound (S : SoundE B A C ev sc) (op : OwnM) (o : Expr) (x : Str) (c₀ : V) (m : Str) (apos pos : Pos) (args : List Expr) (σ : St) (hn : OwnAt sc σ o x c₀) (hop : ownOp m c₀ = some op) (hp : plainO o = true) (hl : methLine apos pos args = true) :
    Steps C (fun k => methOwn ev x op args σ k) (EQ B A sc (.Call (.Attribute o m apos) args [] pos) σ) := fun k K =>
  S.l args σ _ fun vs σ₁ t => .opt fun c hc => .own fun p hdo => K _ _ fun env own Rm s he I => method_any hp hl (t.nos env) (by
    obtain ⟨⟨q, rfl⟩, hd, hk, hx⟩ := hn
    obtain ⟨ov, hv, a, rfl, ha⟩ := I.fm.vars _ _ hx
    refine load_var I hv hd ?_
    obtain ⟨ob, hob, hro, _⟩ := I.hs.holds a _ ha
    refine ⟨_, _, fun pl Q' hq => own_get hop hob hro hq, .builtin _, Post.go (t.go env own Rm s pos he I) fun R₂ us s₂ I₂ x₂ r₂ => ⟨I₂.hs.K, ?_⟩⟩
    have hv2 : VarAt R₂ env x (some (.ref a)) := hv.mono (fun m h => x₂.ns h) (fun c L ov h => x₂.cell h)
    obtain ⟨sl, hsl, hc⟩ := bnd hc
    cases Slot.own_eq hc
    obtain ⟨ov', hv', a', e', ha'⟩ := I₂.fm.vars _ _ hsl
    cases e'.symm.trans (hv'.det hv2)
    obtain ⟨ob', hob', hro', hz⟩ := I₂.hs.holds _ _ ha'
    exact T.mono (own_do I₂.hs hob' hz hro' (fun o' q => tag_ne (ha'.symm.trans q) rfl) r₂ p hdo) fun u s₃ g => (own_set I₂ hsl hv2 ha' g).val x₂)
theorem methM_sound (S : SoundE B A C ev sc) (hC : SoundC B A C) (F : Facts B) (hM : kMeth B.K = true) (rm : Room A n) (o : Expr) (m : Str) (apos pos : Pos) (args : List Expr) (σ : St) (hp : plainO o = true) (hl : methLine apos pos args = true) :
    Steps C (fun k => methM ev sc o m args σ k) (EQ B A sc (.Call (.Attribute o m apos) args [] pos) σ) := fun k K =>
  .els (fun p hn => .opt fun op hop => methOwn_sound S op o p.1 p.2 m apos pos args σ (ownName_inv p hn) hop hp hl k K) fun _ => methGen_sound S hC F hM rm o m apos pos args σ hp hl k K
end
end Mini
namespace Mini
noncomputable def ownAt : Slot → Value → Addr → Prop
  | .own _, .ref a, b => a = b
  | _, _, _ => False
noncomputable def ownsIn : List Slot → List Value → Addr → Prop
  | sl :: sls, u :: us, a => ownAt sl u a ∨ ownsIn sls us a
  | _, _, _ => False
inductive Pend (w : World) (Rm R : RM) : List Slot → List Value → Prop
  | nil : Pend w Rm R [] []
  | cons (sl : Slot) (u : Value) (sls : List Slot) (us : List Value) : ResOK w Rm R sl u → (∀ a, ownAt sl u a → ¬ ownsIn sls us a) → Pend w Rm R sls us → Pend w Rm R (sl :: sls) (u :: us)
section
variable {w : World} {Rm R Rm' R' : RM}
theorem Pend.length {sls : List Slot} {us : List Value} (h : Pend w Rm R sls us) : us.length = sls.length := by
  induction h with
  | nil => rfl
  | cons _ _ _ _ _ _ _ ih => exact congrArg (· + 1) ih
theorem Pend.imp {sls : List Slot} {us : List Value} (h : Pend w Rm R sls us) : (∀ sl u, ResOK w Rm R sl u → (∀ a, ownAt sl u a → ownsIn sls us a) → ResOK w Rm' R' sl u) → Pend w Rm' R' sls us := by
  induction h with
  | nil => exact fun _ => .nil
  | cons sl u sls us h d r ih => exact fun k => .cons _ _ _ _ (k sl u h fun a q => .inl q) d (ih fun sl' u' h' q => k sl' u' h' fun a p => .inr (q a p))
theorem ownAt_temp {sl : Slot} {u : Value} {a : Addr} (h : ResOK w Rm R sl u) (q : ownAt sl u a) : (∃ v, R a = some (.temp v)) ∧ Rm a = none := by
  cases sl with
  | own v =>
    obtain ⟨b, rfl, hb, hn⟩ := h
    cases q
    exact ⟨⟨v, hb⟩, hn⟩
  | _ => exact q.elim
theorem Pend.owns {sls : List Slot} {us : List Value} {a : Addr} (h : Pend w Rm R sls us) : ownsIn sls us a → Rm a = none := by
  induction h with
  | nil => exact fun q => q.elim
  | cons _ _ _ _ h _ _ ih => exact fun q => q.elim (fun q => (ownAt_temp h q).2) ih
theorem ResOK.upd {a : Addr} {sp : Spec} {sl : Slot} {u : Value} (q : ResOK w Rm R sl u) (le : Le R (Mini.upd R a sp)) (d : ¬ ownAt sl u a) : ResOK w Rm (Mini.upd R a sp) sl u := by
  cases sl with
  | val v => exact RepV.mono le q
  | own v =>
    obtain ⟨b, rfl, p, q⟩ := q
    exact ⟨b, rfl, (upd_ne _ _ fun e => d e).trans p, q⟩
  | _ => exact q
end
section
variable {B : Bs} {A : Around} {C : CallT} {ev : Evs} {sc : Scope} {n : Nat}
noncomputable def PPend (w : World) (sls : List Slot) (Rm R' : RM) (us : List Value) : Prop := Pend w Rm R' sls us
structure PQ (B : Bs) (A : Around) (sc : Scope) (es : List Expr) (σ : St) (sls : List Slot) (σ' : St) : Prop where
  len : sls.length = es.length
  nos : ∀ env, (starEach es env).any (·.1) = false
  go : ∀ env own Rm s pos, env.scope = sc → Inv B env own σ Rm s → T B A (spliced (backTo pos (starEach es env))) (Post B env own σ' (some env.locals) Rm (PPend B.w sls)) s
theorem PQ.cons {e : Expr} {es : List Expr} {σ σ₁ σ₂ : St} {sl : Slot} {sls : List Slot} (hst : isStarred e = false) (t : EQ B A sc e σ sl σ₁) (t2 : PQ B A sc es σ₁ sls σ₂) : PQ B A sc (e :: es) σ (sl :: sls) σ₂ := by
  refine ⟨congrArg (· + 1) t2.len, fun env => by rw [starEach_of _ _ hst, List.any_cons, t2.nos env]; rfl, fun env own Rm s pos he I => ?_⟩
  rw [starEach_of _ _ hst]
  exact spliced_cons (Runs.go t he I fun R₁ u s₁ I₁ x₁ r₁ => Post.go (t2.go env own R₁ s₁ pos he I₁) fun R₂ us s₂ I₂ x₂ r₂ => ⟨R₂, I₂, x₁.trans x₂, .cons _ _ _ _ (ResOK.ext r₁ x₂) (fun a q p => by
    obtain ⟨⟨w, hw⟩, _⟩ := ownAt_temp r₁ q
    rw [Pend.owns r₂ p] at hw
    exact ns hw) (Pend.imp r₂ fun sl u q _ => q.back x₁)⟩)
theorem SoundE.pend (S : SoundE B A C ev sc) : ∀ (es : List Expr) (σ : St), Steps C (fun k => ev.sl es σ k) (PQ B A sc es σ)
  | [], σ => fun k K => K _ _ ⟨rfl, fun _ => rfl, fun env own Rm s pos he I => spliced_nil ⟨Rm, I, .refl _ _, .nil⟩⟩
  | e :: es, σ => fun k K => .gdn fun hst => S e σ _ fun sl σ₁ t => SoundE.pend S es σ₁ _ fun sls σ₂ t2 => K _ _ (t2.cons hst t)
inductive Stored (B : Bs) (env : Env) (own : Bool) (σ : St) (Rm : RM) (s : Shared) : Prop
  | mk (R' : RM) (i : Inv B env own σ R' s) (x : ExtS env.locals Rm R') (le : Le Rm R') (k : ∀ b q, Rm b = some q → Nat.beq 4 q.tag = false → Nat.beq 5 q.tag = false → R' b = some q) : Stored B env own σ Rm s
section
variable {env : Env} {own : Bool} {ρ : Rho} {R : RM} {x : Str} {u : Value} {sl : Slot} {a L : Addr} {sp sp' : Spec}
theorem extS_upd (ha : R a = some sp) (ho : sp.owner a = some L) (h6 : Nat.beq sp.tag 6 = false) (hs : ∀ m, R L = some (.ns m) → ∃ m', upd R a sp' L = some (.ns m') ∧ m' (Str.ofString "self") = m (Str.ofString "self")) : ExtS L R (upd R a sp') :=
  ⟨fun b q e => by
    by_cases hb : b = a
    · exact ⟨_, by rw [hb, upd_same]⟩
    · exact ⟨q, (upd_ne _ _ hb).trans e⟩, fun b r v e => ⟨v, upd_keep ha e h6⟩, hs, fun b q e hq _ => (upd_ne R sp' fun hb => hq (by rw [hb, ha] at e; rw [hb, ← Option.some.inj e]; exact ho)).trans e⟩
noncomputable def named (m : Str → Option Value) (x : Str) (u : Value) : Spec := .ns fun y => if y = x then some u else m y
theorem Fm.store_local {m : Str → Option Value} (F : Fm B env own R ρ) (hm : R env.locals = some (.ns m)) (le : Le R (upd R env.locals (named m x u))) (hk : env.kindOf x = some .local) (hu : VarOK B.w R env.locals x sl (some u)) : Fm B env own (upd R env.locals (named m x u)) (setv ρ x sl) := by
  refine ⟨F.kind, F.glob, F.blt, ⟨_, upd_same ..⟩, fun y hy => ?_, fun y sl' hy => ?_⟩
  · obtain ⟨c, L, w, p, q, d⟩ := F.cell y hy
    exact ⟨c, L, w, p, upd_keep hm q rfl, d⟩
  · rw [lookup_setv] at hy
    by_cases e : y = x
    · rw [if_pos e] at hy
      rw [e, ← Option.some.inj hy]
      exact ⟨some u, .inl ⟨hk, _, upd_same .., (if_pos rfl).symm⟩, hu.mono le fun a v h => upd_keep hm h rfl⟩
    · rw [if_neg e] at hy
      obtain ⟨ov, p, q⟩ := F.vars y sl' hy
      refine ⟨ov, ?_, q.mono le fun a v h => upd_keep hm h rfl⟩
      rcases p with ⟨k, m', e1, e2⟩ | ⟨k, c, L, e1, e2⟩
      · rw [hm] at e1
        injection e1 with e1
        injection e1 with e1
        exact .inl ⟨k, _, upd_same .., by rw [e2, ← e1, if_neg e]⟩
      · exact .inr ⟨k, c, L, e1, upd_keep hm e2 rfl⟩
theorem Fm.store_cell {w : Option Value} (F : Fm B env own R ρ) (hk : env.kindOf x = some .cell) (hc : env.cells.lookup x = some a) (hR : R a = some (.cell env.locals x w)) (le : Le R (upd R a (.cell env.locals x (some u)))) (hu : VarOK B.w R env.locals x sl (some u)) : Fm B env own (upd R a (.cell env.locals x (some u))) (setv ρ x sl) := by
  have other : ∀ {y c L ov}, y ≠ x → R c = some (.cell L y ov) → upd R a (.cell env.locals x (some u)) c = some (.cell L y ov) := fun e q => (upd_ne _ _ fun h => by
    rw [h, hR] at q
    injection q with q
    injection q with _ q
    exact e q.symm).trans q
  refine ⟨F.kind, F.glob, F.blt, F.ns.imp fun m h => upd_keep hR h rfl, fun y hy => ?_, fun y sl' hy => ?_⟩
  · by_cases e : y = x
    · rw [e]; exact ⟨a, _, _, hc, upd_same .., fun _ => rfl⟩
    · obtain ⟨c', L, w', p, q, d⟩ := F.cell y hy
      exact ⟨c', L, w', p, other e q, d⟩
  · rw [lookup_setv] at hy
    by_cases e : y = x
    · rw [if_pos e] at hy
      rw [e, ← Option.some.inj hy]
      exact ⟨some u, .inr ⟨hk, a, _, hc, upd_same ..⟩, hu.mono le fun a v h => upd_keep hR h rfl⟩
    · rw [if_neg e] at hy
      obtain ⟨ov, p, q⟩ := F.vars y sl' hy
      exact ⟨ov, p.imp (fun ⟨k, m', e1, e2⟩ => ⟨k, m', upd_keep hR e1 rfl, e2⟩) fun ⟨k, c', L, e1, e2⟩ => ⟨k, c', L, e1, other e e2⟩, q.mono le fun a v h => upd_keep hR h rfl⟩
end
section
variable {env : Env} {own : Bool} {σ : St} {Rm : RM} {s : Shared} {x : Str} {u : Value} {sl : Slot}
theorem store_local (I : Inv B env own σ Rm s) (hk : env.kindOf x = some .local) (hu : VarOK B.w Rm env.locals x sl (some u)) (hself : (x == so "self") = false) : T B A (storeName env x u) (fun _ => Stored B env own (setv σ.1 x sl, σ.2) Rm) s := by
  obtain ⟨m, hm⟩ := I.fm.ns
  refine wpAny_storeName_local hk (I.hs.holds _ _ hm) (fun h' hn hs => ?_) (by rw [I.fm.kind]; rfl)
  have C := I.hs.change (sp' := named m x u) (tk := s.toks + 1) hm rfl (fun b o hb e => (hs.2 b hb).trans e) hn (fun _ => rfl) (fun L e => .inl ⟨⟨_, rfl⟩, (Option.some.inj e).symm⟩) (fun _ e => ns e) (fun _ e => ns e)
  exact ⟨_, ⟨C.1, I.fm.store_local hm C.2 hk hu, I.rg.ext_same (upd_reg_iff hm rfl rfl)⟩, extS_upd hm rfl rfl fun m₀ e => ⟨_, upd_same .., by
    rw [hm] at e
    injection e with e
    injection e with e
    rw [← e]
    exact if_neg fun q => ft ((beq_self_eq_true x ▸ (show (x == x) = false by rw [← q] at hself ⊢; exact hself)).symm)⟩, C.2, fun b q e h4 _ => upd_keep hm e h4⟩
theorem store_cell (I : Inv B env own σ Rm s) (hk : env.kindOf x = some .cell) (ho : own = true) (hu : VarOK B.w Rm env.locals x sl (some u)) : T B A (storeName env x u) (fun _ => Stored B env own (setv σ.1 x sl, σ.2) Rm) s := by
  obtain ⟨c, L, w, hc, hR, hL⟩ := I.fm.cell x hk
  rw [hL ho] at hR
  refine wpAny_storeName_cell I.fm.kind hk hc (I.hs.holds _ _ hR) fun h' hv hs => ?_
  have hne : env.locals ≠ c := fun q => by
    obtain ⟨m, hm⟩ := I.fm.ns
    rw [q, hR] at hm
    injection hm with hm
    exact nomatch hm
  have C := I.hs.swap (sp' := .cell env.locals x (some u)) (tk := s.toks) hR rfl rfl (fun b o hb e => (hs.2 b hb).trans e) hv (.inr ⟨_, rfl, rfl, hne⟩) rfl rfl
  exact ⟨_, ⟨C.1, I.fm.store_cell hk hc hR C.2 hu, I.rg.ext_same (upd_reg_iff hR rfl rfl)⟩, extS_upd hR rfl rfl fun m₀ e => ⟨m₀, (upd_ne _ _ hne).trans e, rfl⟩, C.2, fun b q e _ h5 => upd_keep hR e h5⟩
theorem store_sound (I : Inv B env own σ Rm s) (hk : env.kindOf x = some .local ∨ (env.kindOf x = some .cell ∧ own = true)) (hu : VarOK B.w Rm env.locals x sl (some u)) (hself : (x == so "self") = false) : T B A (storeName env x u) (fun _ => Stored B env own (setv σ.1 x sl, σ.2) Rm) s :=
  hk.elim (fun hk => store_local I hk hu hself) fun hk => store_cell I hk.1 hk.2 hu
end
theorem ExtS.ne {L : Addr} {Rm R : RM} (x : ExtS L Rm R) {a : Addr} {sp : Spec} (hn : Rm a = none) : ExtS L Rm (upd R a sp) := by
  have hb : ∀ b q, Rm b = some q → upd R a sp b = R b := fun b q e => upd_ne _ _ fun h => by rw [h, hn] at e; exact ns e
  exact ⟨fun b q e => by rw [hb b q e]; exact x.dom b q e, fun b r v e => by rw [hb b _ e]; exact x.reg b r v e, fun m e => by rw [hb L _ e]; exact x.selfv m e, fun b q e ho hr => by rw [hb b q e]; exact x.old b q e ho hr⟩
theorem regOf_lt {x : Str} {r : Nat} (h : regOf x = some r) : r < 5 := by
  have := lookup_mem (show [(so "source", 0), (so "box", 1), (so "met", 2), (so "avoided", 3), (so "numbers", 4)].lookup x = some r from h)
  exact of_decide_eq_true (all_of (l := [(so "source", 0), (so "box", 1), (so "met", 2), (so "avoided", 3), (so "numbers", 4)]) (p := fun p => decide (p.2 < 5)) rfl this)
inductive Bound (B : Bs) (env : Env) (own : Bool) (σ : St) (Rm R : RM) (sl : Slot) (u : Value) (s : Shared) : Prop
  | mk (R' : RM) (i : Inv B env own σ R' s) (x : ExtS env.locals Rm R') (k : ∀ sl₂ u₂, ResOK B.w Rm R sl₂ u₂ → (∀ a, ownAt sl u a → ¬ ownAt sl₂ u₂ a) → ResOK B.w Rm R' sl₂ u₂) : Bound B env own σ Rm R sl u s
section
variable {env : Env} {own : Bool} {σ : St} {Rm R : RM} {s : Shared} {x : Str} {u : Value}
theorem Stored.res {R₂ : RM} {sl₂ : Slot} {u₂ : Value} (le : Le R R₂) (k : ∀ b q, R b = some q → Nat.beq 4 q.tag = false → Nat.beq 5 q.tag = false → R₂ b = some q) (q : ResOK B.w Rm R sl₂ u₂) : ResOK B.w Rm R₂ sl₂ u₂ := by
  cases sl₂ with
  | val v => exact RepV.mono le q
  | own v => obtain ⟨a, e, p, q⟩ := q; exact ⟨a, e, k _ _ p rfl rfl, q⟩
  | _ => exact q
theorem bind_via {σ₁ : St} {a : Addr} {sp : Spec} {sl : Slot} {v : V} (I₁ : Inv B env own σ₁ (upd R a sp) s) (le : Le R (upd R a sp)) (hk : env.kindOf x = some .local ∨ (env.kindOf x = some .cell ∧ own = true)) (hself : (x == so "self") = false) (hu : VarOK B.w (upd R a sp) env.locals x sl (some (.ref a))) (x₀ : ExtS env.locals Rm R) (hn : Rm a = none) :
    T B A (storeName env x (.ref a)) (fun _ => Bound B env own (setv σ₁.1 x sl, σ₁.2) Rm R (.own v) (.ref a)) s :=
  (store_sound I₁ hk hu hself).mono fun _ s' ⟨R', I', x', le', k⟩ => ⟨R', I', (x₀.ne hn).trans x', fun sl₂ u₂ q d => Stored.res le' k (q.upd le (d a rfl))⟩
theorem bindGo_sound {sl : Slot} (hself : (x == so "self") = false) (hk : env.kindOf x = some .local ∨ (env.kindOf x = some .cell ∧ own = true)) (I : Inv B env own σ R s) (x₀ : ExtS env.locals Rm R) (hr : ResOK B.w Rm R sl u) :
    Gv (fun σ' => T B A (storeName env x u) (fun _ => Bound B env own σ' Rm R sl u) s) (bindGo x sl σ) := by
  cases sl with
  | val v => exact .some ((store_sound (sl := .val v) I hk ⟨u, rfl, hr⟩ hself).mono fun _ s' ⟨R', I', x', le, k⟩ => ⟨R', I', x₀.trans x', fun sl₂ u₂ q _ => Stored.res le k q⟩)
  | own v =>
    obtain ⟨a, rfl, ha, hn⟩ := hr
    obtain ⟨o, ho', hro, hz⟩ := I.hs.holds a _ ha
    refine .els (fun r hreg => .gdo fun hm => .some ?_) fun _ => .some ?_
    · have le : Le R (upd R a (.reg r v)) := le_upd ha rfl fun _ e => ns e
      have C := I.hs.change (sp' := .reg r v) (tk := s.toks) ha rfl (fun _ _ _ e => e) ⟨o, ho', hro.mono le, hz⟩ (fun e => nomatch e) (fun _ e => ns e) (fun _ e => ns e) (fun q e => .inr fun b => Option.some.inj e ▸ I.rg.gone r (none_of hm) b)
      exact bind_via (σ₁ := (σ.1, muSet σ.2 r v)) ⟨C.1, I.fm.le le fun b q e hq => upd_keep ha e (inFrame_tag hq), I.rg.put ha (fun _ e => ns e) (by rw [I.rg.len]; exact regOf_lt hreg) (.inl rfl)⟩ le hk hself ⟨.ref a, rfl, .reg r a ⟨_, upd_same .., rfl⟩⟩ x₀ hn
    · have le : Le R (upd R a (.var env.locals x v)) := le_upd ha rfl fun _ e => ns e
      obtain ⟨m, hm⟩ := I.fm.ns
      have hne : env.locals ≠ a := fun q => by rw [q, ha] at hm; injection hm with hm; exact nomatch hm
      have C := I.hs.change (sp' := .var env.locals x v) (tk := s.toks) ha rfl (fun _ _ _ e => e) ⟨o, ho', hro.mono le, hz⟩ (fun e => nomatch e) (fun L e => .inr ⟨m, Option.some.inj e ▸ hm, Option.some.inj e ▸ hne⟩) (fun _ e => ns e) (fun q e => ns e)
      exact bind_via ⟨C.1, I.fm.le le fun b q e hq => upd_keep ha e (inFrame_tag hq), I.rg.ext_same (upd_reg_iff ha rfl rfl)⟩ le hk hself ⟨a, rfl, upd_same ..⟩ x₀ hn
  | _ => exact .none
theorem bindM_sound {sl : Slot} (he : env.scope = sc) (ho : own = true ∨ sc.names.lookup x ≠ some .cell) (I : Inv B env own σ R s) (x₀ : ExtS env.locals Rm R) (hr : ResOK B.w Rm R sl u) :
    Gv (fun σ' => T B A (storeName env x u) (fun _ => Bound B env own σ' Rm R sl u) s) (bindM sc x sl σ) := .gdo fun h1 => .gdo fun h2 => bindGo_sound (not_true h1) ((Bool.or_eq_true_iff.mp h2).imp (fun h => kind_of he (loc_inv h)) fun h => ⟨kind_of he (cell_inv h), ho.resolve_right fun q => q (cell_inv h)⟩) I x₀ hr
end
end
end Mini
namespace Mini
noncomputable def ownTuples : List String := ["enumerate", "zip", "dict_itemiterator", "dict_reverseitemiterator", "odict_iterator", "itertools.zip_longest", "itertools.pairwise"]
structure Feed (B : Bs) (A : Around) (R₀ : RM) (I : Addr) (xs : List V) where
  fp : List Addr
  P : Nat → Value → Prop
  St : Nat → Heap → Prop
  W : Walks PW B.w A I fp [I] xs.length P St
  const : ∀ b ∈ fp, b ≠ I → ∃ o, R₀ b = some (.frozen o) ∨ ∃ r, R₀ b = some (.held r o)
  obj : ∀ i h, St i h → ∃ o n, h.get? I = some o ∧ o.cls = .type n ∧ ownTuples.contains n = false
  rep : ∀ i v u, xs[i]? = some v → P i u → RepV B.w R₀ v u
noncomputable def hide (I : Addr) (R : RM) : RM := fun b => if b = I then none else R b
theorem hide_same (I : Addr) (R : RM) : hide I R I = none := if_pos rfl
theorem hide_ne {I b : Addr} (R : RM) (h : b ≠ I) : hide I R b = R b := if_neg h
theorem hide_keep {I b : Addr} {R : RM} {sp q : Spec} (h : R I = some sp) (e : R b = some q) (ht : Nat.beq sp.tag q.tag = false) : hide I R b = some q := (hide_ne R fun hb => tag_ne (h.symm.trans (hb ▸ e)) ht).trans e
theorem hide_back {I b : Addr} {R : RM} {q : Spec} (e : hide I R b = some q) : b ≠ I ∧ R b = some q := by
  by_cases hb : b = I
  · rw [hb, hide_same] at e; exact ns e
  · rw [hide_ne _ hb] at e; exact ⟨hb, e⟩
structure Ke (R R' : RM) : Prop where
  le : Le R R'
  held : ∀ b r o, R b = some (.held r o) → R' b = some (.held r o)
theorem Ke.refl (R : RM) : Ke R R := ⟨.refl R, fun _ _ _ h => h⟩
theorem Ke.trans {R S T : RM} (x : Ke R S) (y : Ke S T) : Ke R T := ⟨x.le.trans y.le, fun b r o h => y.held b r o (x.held b r o h)⟩
theorem Ext.ke {L : Option Addr} {R S : RM} (x : Ext L R S) : Ke R S := ⟨x.le, fun b r o h => x.old b _ h⟩
theorem ExtS.ke {L : Addr} {R S : RM} (x : ExtS L R S) : Ke R S := ⟨x.le, fun b r o h => x.old b _ h (fun e => nomatch e) (fun _ _ e => nomatch e)⟩
theorem ke_upd {R : RM} {a : Addr} {sp sp' : Spec} (ha : R a = some sp) (h0 : Nat.beq sp.tag 0 = false) (hr : sp.regNo = none) : Ke R (upd R a sp') :=
  ⟨le_upd ha h0 (fun r e => by rw [hr] at e; exact ns e), fun b r o h => (upd_ne R sp' fun hb => by
    rw [hb, ha] at h
    rw [Option.some.inj h] at hr
    exact nomatch hr).trans h⟩
section
variable {B : Bs} {A : Around} {R₀ R R' : RM} {I : Addr} {xs : List V} {s s' : Shared} {n : Nat}
theorem Feed.keep (F : Feed B A R₀ I xs) {i : Nat} {o : Obj} (H : HS B R s) (H' : HS B R' s') (k : Ke R₀ R) (k' : Ke R₀ R') (h : R I = some (.pin o)) (h' : R' I = some (.pin o)) (st : F.St i s.heap) : F.St i s'.heap :=
  F.W.frame i _ _ st fun b hb ob hob => by
    by_cases hI : b = I
    · subst hI
      have e1 : s.heap.get? b = some o := H.holds _ _ h
      have e2 : s'.heap.get? b = some o := H'.holds _ _ h'
      rw [e1] at hob; cases hob; exact e2
    · obtain ⟨q, hq⟩ := F.const b hb hI
      rcases hq with hq | ⟨r, hq⟩
      · have e1 := H.frozen (k.le.1 _ _ hq)
        rw [e1] at hob; cases hob
        exact H'.frozen (k'.le.1 _ _ hq)
      · have e1 := (H.holds _ _ (k.held _ _ _ hq)).1
        rw [e1] at hob; cases hob
        exact (H'.holds _ _ (k'.held _ _ _ hq)).1
theorem pin_set (H : HS B R s) {o o' : Obj} {h' : Heap} {tk : Nat} (h : R I = some (.pin o)) (hs : ∀ b o, b ≠ I → s.heap.get? b = some o → h'.get? b = some o) (ho : h'.get? I = some o') : HS B (upd R I (.pin o')) { s with heap := h', toks := tk } :=
  (H.swap (sp' := .pin o') (tk := tk) h rfl rfl hs ho (.inl rfl) rfl rfl).1
inductive Taken (B : Bs) (A : Around) (R₀ R : RM) (I : Addr) (xs : List V) (F : Feed B A R₀ I xs) (i : Nat) (v : V) (s' : Shared) : Option Value → Prop
  | mk (u : Value) (o' : Obj) (r : RepV B.w R v u) (H : HS B (upd R I (.pin o')) s') (st : F.St (i + 1) s'.heap) : Taken B A R₀ R I xs F i v s' (some u)
theorem Feed.next (F : Feed B A R₀ I xs) {i : Nat} {v : V} {o : Obj} (H : HS B R s) (k : Ke R₀ R) (h : R I = some (.pin o)) (st : F.St i s.heap) (hv : xs[i]? = some v) :
    T B A (pyNext (.ref I)) (fun q s' => Taken B A R₀ R I xs F i v s' q) s := by
  have hi := (List.getElem?_eq_some_iff.mp hv).1
  refine F.W.item i s _ _ hi st fun u h' tk hP st' hs => ?_
  obtain ⟨o', _, ho', _⟩ := F.obj _ _ st'
  exact ⟨u, o', (F.rep i v u hv hP).mono k.le, pin_set H h (fun b o hb e => hs b o (fun h => hb (List.mem_singleton.mp h)) e) ho', st'⟩
theorem HS.moved (H : HS B R s) (hk : ∀ b o, (∃ sp, R b = some sp) → s.heap.get? b = some o → s'.heap.get? b = some o) (hg : s'.gens = s.gens) (ho : s'.os = s.os) : HS B R s' :=
  ⟨fun a sp e => (H.holds a sp e).mono (.refl R) fun o y => hk a o ⟨sp, e⟩ y, H.base, H.own, H.regs, hg.trans H.gens, ho.trans H.os⟩
theorem HS.hide (H : HS B R s) {o : Obj} (h : R I = some (.pin o)) : HS B (Mini.hide I R) s := by
  have le : Le R (Mini.hide I R) := ⟨fun b o' e => hide_keep h e rfl, fun b r ⟨q, e, e'⟩ => ⟨q, (hide_ne R fun hb => by
    rw [hb, h] at e
    rw [← Option.some.inj e] at e'
    exact ns e').trans e, e'⟩⟩
  have key : ∀ c r, RegAt (Mini.hide I R) c r → RegAt R c r := fun c r ⟨q, e, e'⟩ => ⟨q, (hide_back e).2, e'⟩
  exact ⟨fun a sp e => (H.holds a sp (hide_back e).2).mono le fun _ y => y, fun a ob e => le.1 a ob (H.base a ob e), fun a sp L e eo => (H.own a sp L (hide_back e).2 eo).imp fun m hm => hide_keep h hm rfl, fun a b r e1 e2 => H.regs a b r (key a r e1) (key b r e2), H.gens, H.os⟩
theorem Feed.stop (F : Feed B A R₀ I xs) {o : Obj} (H : HS B R s) (h : R I = some (.pin o)) (st : F.St xs.length s.heap) :
    T B A (pyNext (.ref I)) (fun q s' => q = none ∧ HS B (hide I R) s') s := F.W.done s _ _ st fun h' tk hs =>
  ⟨rfl, (H.hide h).moved (s' := { s with heap := h', toks := tk }) (fun b o ⟨sp, e⟩ y => hs b o (fun h => (hide_back e).1 (List.mem_singleton.mp h)) y) rfl rfl⟩
theorem Feed.owned (F : Feed B A R₀ I xs) {i : Nat} {t : Expr} {u : Value} {Q : Unit → Shared → Prop} (st : F.St i s.heap) (h : Q () s) : T B A (letOwnedTupleGo t (.ref I) u) Q s := by
  have key : ∀ a, T B A (do
      let o ← load I
      match o.cls, o.data with
      | .type n, .fields vs =>
        if ["enumerate", "zip", "dict_itemiterator", "dict_reverseitemiterator", "odict_iterator", "itertools.zip_longest", "itertools.pairwise"].contains n && vs[0]? == some (rawInt a) then
          rule "for.unpacks-the-owned-tuple"
          updateField I 0 .none
      | _, _ => pure ()) Q s := fun a => by
    obtain ⟨⟨c, d, dt, sl⟩, m, ho, hc, hn⟩ := F.obj i _ st
    cases hc
    refine wpAny_bind (wpAny_load ho ?_)
    cases dt with
    | fields vs =>
      dsimp only
      rw [show (["enumerate", "zip", "dict_itemiterator", "dict_reverseitemiterator", "odict_iterator", "itertools.zip_longest", "itertools.pairwise"].contains m) = false from hn]
      exact wpAny_pure h
    | _ => exact wpAny_pure h
  cases t with
  | Tuple =>
    cases u with
    | ref a => exact key a
    | _ => exact wpAny_pure h
  | List =>
    cases u with
    | ref a => exact key a
    | _ => exact wpAny_pure h
  | _ => exact wpAny_pure h
inductive Begun (B : Bs) (A : Around) (R : RM) (xs : List V) (s : Shared) : Value → Shared → Prop
  | mk (o : Obj) (hf : o.isFreed = false) (F : Feed B A R s.heap.objs.size xs) (st : F.St 0 (s.heap.push o)) : Begun B A R xs s (.ref s.heap.objs.size) { s with heap := s.heap.push o }
theorem list_feed {l : Addr} {items : List Value} (rm : A.handled = none) (hI : l ≠ I) (hc : (∃ o, R l = some (.frozen o)) ∨ ∃ r o, R l = some (.held r o)) (hr : RepL B.w R xs items) {h : Heap} (h0 : h.IsListIter I l 0 ∧ h.IsList l items.toArray) : ∃ F : Feed B A R I xs, F.St 0 h := by
  have hlen : items.toArray.size = xs.length := (List.size_toArray ..).trans hr.length
  have W := Walks.list (prog := PW) (w := B.w) (A := A) rm I l hI items.toArray
  rw [hlen] at W
  refine ⟨⟨_, _, _, W, fun b hb hbI => ?_, fun i h ⟨⟨o, ho, hc, _⟩, _⟩ => ⟨o, _, ho, hc, rfl⟩, fun i v u hv hP => ?_⟩, h0⟩
  · rw [List.mem_singleton.mp ((List.mem_cons.mp hb).resolve_left hbI)]
    exact hc.elim (fun ⟨o, h⟩ => ⟨o, .inl h⟩) fun ⟨r, o, h⟩ => ⟨o, .inr ⟨r, h⟩⟩
  · have := hr.at i
    rw [hv, ← List.getElem?_toArray, hP] at this
    obtain ⟨u', hu', r⟩ := this
    cases hu'
    exact r
theorem begin_list (H : HS B R s) (rm : A.handled = none) {u : Value} (hv : RepV B.w R (.list xs) u) : T B A (pyIter u) (Begun B A R xs s) s := by
  obtain ⟨l, o, rfl, hz, hR, ho⟩ := hv.box rfl
  obtain ⟨items, ep, rfl, hr⟩ := ho.inv
  have hl : IsL s.heap l items.toArray ep := H.frozen hR
  obtain ⟨F, st⟩ := list_feed (A := A) (h := s.heap.push { cls := .type "list_iterator", data := .fields #[.ref l, .int 0 0] }) rm (Nat.ne_of_lt (Heap.lt_size hl)) (.inl ⟨_, hR⟩) hr ⟨⟨_, Heap.get?_push_size _ rfl, rfl, rfl⟩, hl.isList.push _⟩
  exact wpAny_pyIter_list hl.isList ⟨_, rfl, F, st⟩
theorem signs_get (x : Str) (i : Nat) : (x.cps.toList.map fun c => V.str (sign c))[i]? = (x.cps[i]?).map fun c => .str (sign c) := by
  rw [List.getElem?_map, Array.getElem?_toList]
theorem begin_str {x : Str} (rm : A.handled = none) {u : Value} (hv : RepV B.w R (.str x) u) : T B A (pyIter u) (Begun B A R (x.cps.toList.map fun c => .str (sign c)) s) s := by
  obtain ⟨t, rfl⟩ := hv.str_inv rfl
  have rep : ∀ i v u, (x.cps.toList.map fun c => V.str (sign c))[i]? = some v → SignAt x i u → RepV B.w R v u := fun i v u hv ⟨c, tk, hc, hu⟩ => by
    rw [signs_get, hc] at hv
    cases hv
    cases hu
    exact .str _ _
  have hlen : x.cps.size = (x.cps.toList.map fun c => V.str (sign c)).length := by rw [List.length_map, Array.length_toList]
  have const : ∀ b ∈ [s.heap.objs.size], b ≠ s.heap.objs.size → ∃ o, R b = some (.frozen o) ∨ ∃ r, R b = some (.held r o) := fun b hb hbI => (hbI (List.mem_singleton.mp hb)).elim
  cases ha : x.cps.all (· < 128)
  · have W := Walks.strWide (prog := PW) (w := B.w) (A := A) rm s.heap.objs.size x t
    rw [hlen] at W
    exact wpAny_pyIter_wide ha ⟨_, rfl, ⟨_, _, _, W, const, fun i h ⟨o, ho, hc, _⟩ => ⟨o, _, ho, hc, rfl⟩, rep⟩, ⟨_, Heap.get?_push_size _ rfl, rfl, rfl⟩⟩
  · have W := Walks.strAscii (prog := PW) (w := B.w) (A := A) rm s.heap.objs.size x t
    rw [hlen] at W
    exact wpAny_pyIter_ascii ha ⟨_, rfl, ⟨_, _, _, W, const, fun i h ⟨o, ho, hc, _⟩ => ⟨o, _, ho, hc, rfl⟩, rep⟩, ⟨_, Heap.get?_push_size _ rfl, rfl, rfl⟩⟩
theorem upFrom_get (f : Nat → V) : ∀ (n i k : Nat) (v : V), (upFrom f n i)[k]? = some v → v = f (i + k)
  | 0, i, k, v, h => ns h
  | n + 1, i, 0, v, h => (Option.some.inj h).symm
  | n + 1, i, k + 1, v, h => by
    have := upFrom_get f n (i + 1) k v h
    rw [this, Nat.succ_add_eq_add_succ]
theorem upFrom_length (f : Nat → V) : ∀ n i : Nat, (upFrom f n i).length = n
  | 0, _ => rfl
  | n + 1, i => congrArg (· + 1) (upFrom_length f n (i + 1))
theorem begin_range {k : Nat} (H : HS B R s) (rm : A.handled = none) (hk : k ≤ 16000000) {u : Value} (hv : RepV B.w R (.range k) u) : T B A (pyIter u) (Begun B A R (upFrom (fun i => .int i) k 0) s) s := by
  obtain ⟨l, o, rfl, hz, hR, ho⟩ := hv.box rfl
  obtain ⟨t, u, v, rfl⟩ := ho.inv
  have W := Walks.range (prog := PW) (w := B.w) (A := A) rm s.heap.objs.size 0 1 k
  rw [← upFrom_length (fun i => V.int i) k 0] at W
  have hs : Builtin.Range.rangeSize 0 k 1 = k := by delta Builtin.Range.rangeSize; simp; omega
  refine wpAny_pyIter_range (H.frozen hR) (small_one (by omega) (by omega) (by omega) (by omega)) ⟨_, rfl, ⟨_, _, _, W, fun b hb hbI => (hbI (List.mem_singleton.mp hb)).elim, fun i h st => ⟨_, _, st, rfl, rfl⟩, fun i v u hv hP => ?_⟩, ?_⟩
  · obtain ⟨tk, rfl⟩ := hP
    rw [upFrom_get _ _ _ _ _ hv, show (0 : Int) + (i : Nat) * 1 = ((0 + i : Nat) : Int) by omega]
    exact .int _ _
  · show IsRangeIter _ _ _ _ _
    rw [hs, upFrom_length]
    have := Heap.get?_push_size (h := s.heap) (o := { cls := .type "range_iterator", data := .fields #[rawInt 0, rawInt k, rawInt 1] }) rfl
    simpa using this
theorem begin_dict {kvs : List (Str × V)} (H : HS B R s) (rm : A.handled = none) {u : Value} (hv : RepV B.w R (.dictS kvs) u) : T B A (pyIter u) (Begun B A R (kvs.map fun p => .str p.1) s) s := by
  obtain ⟨d, o, rfl, hz, hR, ho⟩ := hv.box rfl
  obtain ⟨kvs', h1, h2, h3⟩ := ho.inv
  have hd : s.heap.DictOf (strKind PW B.w) d kvs' := dictOf_iff.mpr ⟨o, H.frozen hR, h1⟩
  obtain ⟨ep, hda⟩ := hd.dictAt
  have W := Walks.dictKeys (prog := PW) (w := B.w) (A := A) (knd := strKind PW B.w) rm s.heap.objs.size d (Nat.ne_of_lt hda.lt_size) kvs' ep
  have hlen : kvs'.length = (kvs.map fun p => V.str p.1).length := by rw [List.length_map, ← List.length_map (as := kvs') (f := (·.1)), ← h2, List.length_map]
  rw [hlen] at W
  refine wpAny_pyIter_dict hz hda ⟨_, rfl, ⟨_, _, _, W, fun b hb hbI => ?_, fun i h ⟨⟨o, ho, hc, _⟩, _⟩ => ⟨o, _, ho, hc, rfl⟩, fun i v u hv hP => ?_⟩, ⟨hlen ▸ ⟨_, Heap.get?_push_size _ rfl, rfl, rfl⟩, hda.push _⟩⟩
  · rw [List.mem_singleton.mp ((List.mem_cons.mp hb).resolve_left hbI)]
    exact ⟨o, .inl hR⟩
  · obtain ⟨kk, x, hx, hkk⟩ := hP
    obtain ⟨t, rfl⟩ := Value.isStrOf_shape hkk
    have e1 : (kvs.map (·.1))[i]? = some kk := by rw [h2, List.getElem?_map, hx]; rfl
    rw [List.getElem?_map] at e1 hv
    obtain ⟨q, hq, rfl⟩ := Option.map_eq_some_iff.mp e1
    rw [hq] at hv
    cases hv
    exact .str _ _
theorem begin_sound (H : HS B R s) (rm : A.handled = none) {v : V} {u : Value} (e : overM v = some xs) (hv : RepV B.w R v u) : T B A (pyIter u) (Begun B A R xs s) s := by
  obtain ⟨ys, hys, e⟩ := bnd e
  obtain ⟨hf, e⟩ := gdo_some e
  cases e
  cases v with
  | list xs => cases hys; exact begin_list H rm hv
  | dictS kvs => cases hys; exact begin_dict H rm hv
  | str x => cases hys; exact begin_str rm hv
  | range k =>
    cases hys
    refine begin_range H rm ?_ hv
    have := fits_size hf
    rw [upFrom_length] at this
    exact this
  | _ => exact ns hys
end
end Mini
namespace Mini
noncomputable def Keep (R R' : RM) : Prop := ∀ b q, R b = some q → Nat.beq 4 q.tag = false → Nat.beq 5 q.tag = false → R' b = some q
theorem Keep.refl (R : RM) : Keep R R := fun _ _ h _ _ => h
theorem Keep.trans {R S T : RM} (x : Keep R S) (y : Keep S T) : Keep R T := fun b q h a c => y b q (x b q h a c) a c
inductive Aimed (B : Bs) (env : Env) (own : Bool) (σ : St) (Rm : RM) (s : Shared) : Prop
  | mk (R' : RM) (i : Inv B env own σ R' s) (x : ExtS env.locals Rm R') (k : Keep Rm R') : Aimed B env own σ Rm s
theorem T.to {B : Bs} {A : Around} {α : Type} {t : Sem α} {Q Q' : α → Shared → Prop} {E : Value → Shared → Prop} {s : Shared} (h : T B A t Q s) (k : ∀ a s', Q a s' → Q' a s') : wpAny (model PW B.w) A t Q' E s := wpAny_mono h k fun _ _ e => e.elim
noncomputable def ifsOf (ifs : List Expr) (env : Env) : Sem Bool := forIn ifs true fun c r => if r = true then do let ok ← isTrue c env (eval c env); pure (ForInStep.yield ok) else pure (ForInStep.yield r)
section
variable {B : Bs} {A : Around} {C : CallT} {ev : Evs} {sc : Scope} {n : Nat}
section
variable {loc own : Bool} {env : Env} (he : env.scope = sc) (ho : own = true ∨ loc = true)
include he ho
theorem name_sound {x : Str} {p : Pos} {v : V} {u : Value} {σ : St} {Rm : RM} {s : Shared} (I : Inv B env own σ Rm s) (hv : RepV B.w Rm v u) : Gv (fun σ' => T B A (assign (.Name x p) env u) (fun _ => Aimed B env own σ' Rm) s) (bindLoc loc sc x (.val v) σ) :=
  .gdo fun h0 => .gdo fun h1 => .gdo fun h2 => .some (wpAny_assign_Name ((store_sound (sl := .val v) I (by
    rcases Bool.or_eq_true_iff.mp h2 with h | h
    · exact .inl (kind_of he (loc_inv h))
    · rcases Bool.or_eq_true_iff.mp h0 with h0 | h0
      · exact .inr ⟨kind_of he (cell_inv h), ho.resolve_right fun q => by rw [q] at h0; exact ft h0⟩
      · exact .inl (kind_of he (loc_inv h0))) ⟨u, rfl, hv⟩ (not_true h1)).mono fun _ s' ⟨R', I', x', _, k⟩ => ⟨R', I', x', k⟩))
omit he ho in
theorem each_len {ts : List Expr} : ∀ {vs : List V} {σ : St}, Gv (fun _ => ∀ env, (assignEach ts env).length = vs.length ∧ (assignEach ts env).findIdx? (·.1) = none) (bindEach loc sc ts vs σ) := by
  induction ts with
  | nil => exact .gdo fun h => .some fun _ => ⟨by rw [List.isEmpty_iff.mp h]; rfl, rfl⟩
  | cons t ts ih =>
    intro vs σ
    refine .bind fun x hx => ?_
    cases vs with
    | nil => exact .none
    | cons v vs =>
      refine .bind fun σ₁ h1 σ' h2 env => ?_
      obtain ⟨p, rfl⟩ := name_inv hx
      obtain ⟨l1, l2⟩ := ih σ' h2 env
      refine ⟨congrArg (· + 1) l1, ?_⟩
      show List.findIdx? (fun x => x.1) ((false, assign (.Name x p) env) :: assignEach ts env) = none
      rw [List.findIdx?_cons, l2]
      rfl
theorem each_sound {ts : List Expr} : ∀ {vs : List V} {us : List Value} {σ : St} {Rm : RM} {s : Shared}, Inv B env own σ Rm s → RepL B.w Rm vs us → Gv (fun σ' => T B A (assignInOrder ((assignEach ts env).map (·.2)) us) (fun _ => Aimed B env own σ' Rm) s) (bindEach loc sc ts vs σ) := by
  induction ts with
  | nil =>
    intro vs us σ Rm s I hr
    refine .gdo fun h => .some ?_
    rw [List.isEmpty_iff.mp h] at hr
    rw [hr.nil_inv]
    exact assignInOrder_nil ⟨Rm, I, .refl _ _, .refl _⟩
  | cons t ts ih =>
    intro vs us σ Rm s I hr
    refine .bind fun x hx => ?_
    cases vs with
    | nil => exact .none
    | cons v vs =>
      obtain ⟨u, us, rfl, hv, hr⟩ := hr.inv
      obtain ⟨p, rfl⟩ := name_inv hx
      exact .bind fun σ₁ h1 σ' h2 => assignInOrder_cons ((name_sound he ho I hv σ₁ h1).mono fun _ s₁ ⟨R₁, I₁, x₁, k₁⟩ => (ih I₁ (hr.mono x₁.le) σ' h2).mono fun _ s₂ ⟨R₂, I₂, x₂, k₂⟩ => ⟨R₂, I₂, x₁.trans x₂, k₁.trans k₂⟩)
theorem target_sound {t : Expr} {v : V} {u : Value} {σ : St} {Rm : RM} {s : Shared} (rm : A.handled = none) (I : Inv B env own σ Rm s) (hv : RepV B.w Rm v u) : Gv (fun σ' => T B A (assign t env u) (fun _ => Aimed B env own σ' Rm) s) (bindTo loc sc t v σ) := by
  have i := ev_is t
  unfold bindTo
  cases hq : evOf t with
  | name x p =>
    rw [hq] at i
    rw [show t = .Name x p from i]
    exact name_sound he ho I hv
  | tup ts =>
    rw [hq] at i
    obtain ⟨k, p, rfl⟩ := i
    refine .bind fun vs hvs σ' h => ?_
    obtain ⟨l, items, rfl, hl, hr⟩ := (Seen.of (h := s.heap) hv).tuple I.hs hvs
    obtain ⟨l1, l2⟩ := each_len σ' h env
    exact wpAny_assign_Tuple rm hl (by rw [List.size_toArray, hr.length]; exact l1) l2 fun h' hx =>
      each_sound he ho ⟨I.hs.kept (s' := { s with heap := h' }) (fun b o e => hx b o (Nat.ne_of_lt (Heap.lt_size e)) e) rfl rfl, I.fm, I.rg⟩ hr σ' h
  | _ => exact .none
end
theorem ifs_no {xs : List Expr} {env : Env} {Q : Bool → Shared → Prop} {s : Shared} (h : Q false s) : T B A (forIn xs false fun c r => if r = true then do let ok ← isTrue c env (eval c env); pure (ForInStep.yield ok) else pure (ForInStep.yield r)) Q s := by
  induction xs with
  | nil => rw [List.forIn_nil]; exact wpAny_pure h
  | cons y l ih => rw [List.forIn_cons, if_neg Bool.false_ne_true]; exact wpAny_bind (wpAny_pure ih)
theorem ifs_cons {x : Expr} {xs : List Expr} {env : Env} {Q : Bool → Shared → Prop} {s : Shared} (h : T B A (testOf x env) (fun b s₁ => (b = true → T B A (ifsOf xs env) Q s₁) ∧ (b = false → Q false s₁)) s) : T B A (ifsOf (x :: xs) env) Q s := by
  unfold ifsOf
  rw [List.forIn_cons, if_pos rfl]
  refine wpAny_bind (wpAny_bind (T.mono h fun b s₁ h₁ => wpAny_pure ?_))
  cases b with
  | true => exact h₁.1 rfl
  | false => exact ifs_no (h₁.2 rfl)
theorem tests_sound (S2 : SoundB B A C ev sc) : ∀ (ifs : List Expr) (σ : St), Steps C (fun k => testsE ev ifs σ k) (fun b σ' => Runs B A sc σ σ' (ifsOf ifs) (PEq b))
  | [], σ => fun k K => K _ _ fun env own Rm s he I => wpAny_pure ⟨Rm, I, .refl _ _, rfl⟩
  | x :: xs, σ => fun k K => S2 x σ _ fun b σ₁ t => .br (fun e => tests_sound S2 xs σ₁ _ fun c σ₂ t2 => K _ _ fun env own Rm s he I => ifs_cons (Runs.go t he I fun R₁ u s₁ I₁ x₁ r₁ =>
      ⟨fun _ => Runs.go t2 he I₁ fun R₂ y s₂ I₂ x₂ q => ⟨R₂, I₂, x₁.trans x₂, q⟩, fun h => ft (h.symm.trans (r₁.trans e))⟩)) fun e => K _ _ fun env own Rm s he I => ifs_cons (Runs.go t he I fun R₁ u s₁ I₁ x₁ r₁ =>
      ⟨fun h => ft ((r₁.trans e).symm.trans h), fun _ => ⟨R₁, I₁, x₁, rfl⟩⟩)
noncomputable def Turn (B : Bs) (A : Around) (env : Env) (target : Expr) (it : Value) (ifs : List Expr) (stop yes no : Shared → Prop) (s : Shared) : Prop := T B A (pyNext it) (fun r s₁ => match r with
  | none => stop s₁
  | some v => T B A (letOwnedTupleGo target it v) (fun _ s₁' => T B A (assign target env v) (fun _ s₂ => T B A (ifsOf ifs env) (fun ok s₃ => if ok = true then yes s₃ else no s₃) s₂) s₁') s₁) s
theorem compLoop_T {elt target iter : Expr} {ifs : List Expr} {scope : Scope} {pos : Pos} {it acc : Value} {env : Env} {Rs : Result → Shared → Prop} {s : Shared} (I : Nat → Shared → Prop)
    (turn : ∀ n s, I n s → Turn B A env target it ifs (Rs (.ok .next)) (fun s₃ => T B A (eval elt env) (fun x s₄ => T B A (call (.builtin "list.append") [acc, x]) (fun _ s₅ => ∃ m, m < n ∧ I m s₅) s₄) s₃) (fun s₃ => ∃ m, m < n ∧ I m s₃) s)
    (n : Nat) (h : I n s) : codeAny (model PW B.w) A (.compLoop (.ListComp elt [⟨target, iter, ifs, 0⟩] scope pos) 0 it acc env) Rs s := by
  refine codeAny_loop rfl I (fun n s hI => ?_) n h
  show wpAny _ A ((compTurn (.ListComp elt [⟨target, iter, ifs, 0⟩] scope pos) 0 it acc env).onRaise (fun x => do noteFrame x env; theTreesLotGoes x)) _ _ s
  refine wpAny_noted ?_
  rw [compTurn_list]
  refine wpAny_bind (wpAny_standAt (wpAny_bind (T.to (turn n s hI) fun r s₁ h₁ => ?_)))
  cases r with
  | none => exact wpAny_pure h₁
  | some v =>
    refine wpAny_bind (T.to h₁ fun _ s₁' h₁' => wpAny_bind (T.to h₁' fun _ s₂ h₂ => wpAny_bind (T.to h₂ fun ok s₃ h₃ => ?_)))
    cases ok with
    | false => exact wpAny_pure ⟨rfl, h₃⟩
    | true => exact wpAny_bind (wpAny_bind (T.to h₃ fun x s₄ h₄ => wpAny_bind (T.to h₄ fun _ s₅ h₅ => wpAny_pure (wpAny_pure ⟨rfl, h₅⟩))))
theorem compLoopD_T {kx vx target iter : Expr} {ifs : List Expr} {scope : Scope} {pos : Pos} {it : Value} {D : Addr} {env : Env} {Rs : Result → Shared → Prop} {s : Shared} (I : Nat → Shared → Prop)
    (turn : ∀ n s, I n s → Turn B A env target it ifs (Rs (.ok .next)) (fun s₃ => T B A (eval kx env) (fun kv s₄ => T B A (eval vx env) (fun vv s₅ => T B A (dictSet D kv vv) (fun _ s₆ => ∃ m, m < n ∧ I m s₆) s₅) s₄) s₃) (fun s₃ => ∃ m, m < n ∧ I m s₃) s)
    (n : Nat) (h : I n s) : codeAny (model PW B.w) A (.compLoop (.DictComp kx vx [⟨target, iter, ifs, 0⟩] scope pos) 0 it (.ref D) env) Rs s := by
  refine codeAny_loop rfl I (fun n s hI => ?_) n h
  show wpAny _ A ((compTurn (.DictComp kx vx [⟨target, iter, ifs, 0⟩] scope pos) 0 it (.ref D) env).onRaise (fun x => do noteFrame x env; theTreesLotGoes x)) _ _ s
  refine wpAny_noted ?_
  rw [compTurn_dict]
  refine wpAny_bind (wpAny_standAt (wpAny_bind (T.to (turn n s hI) fun r s₁ h₁ => ?_)))
  cases r with
  | none => exact wpAny_pure h₁
  | some v =>
    refine wpAny_bind (T.to h₁ fun _ s₁' h₁' => wpAny_bind (T.to h₁' fun _ s₂ h₂ => wpAny_bind (T.to h₂ fun ok s₃ h₃ => ?_)))
    cases ok with
    | false => exact wpAny_pure ⟨rfl, h₃⟩
    | true => exact wpAny_bind (wpAny_bind (T.to h₃ fun x s₄ h₄ => wpAny_bind (wpAny_holding (T.to h₄ fun _ s₅ h₅ => wpAny_bind (wpAny_standAt (wpAny_holding (T.to h₅ fun _ s₆ h₆ => wpAny_pure ⟨rfl, h₆⟩)))))))
end
end Mini
namespace Mini
theorem hide_upd (R : RM) (a : Addr) (sp : Spec) : hide a (upd R a sp) = hide a R := by
  funext b
  by_cases h : b = a
  · rw [h, hide_same, hide_same]
  · rw [hide_ne _ h, hide_ne _ h, upd_ne _ _ h]
theorem hide_hide (R : RM) (a : Addr) : hide a (hide a R) = hide a R := by
  funext b
  by_cases h : b = a
  · rw [h, hide_same, hide_same]
  · rw [hide_ne _ h]
theorem hide_comm (a b : Addr) (R : RM) : hide a (hide b R) = hide b (hide a R) := by
  funext c
  by_cases h : c = a
  · by_cases h' : c = b
    · rw [← h, ← h']
    · rw [h, hide_same, hide_ne _ (h ▸ h'), hide_same]
  · by_cases h' : c = b
    · rw [h', hide_same, hide_ne _ (h' ▸ h), hide_same]
    · rw [hide_ne _ h, hide_ne _ h', hide_ne _ h', hide_ne _ h]
theorem ExtS.hide {L : Addr} {R R' : RM} (x : ExtS L R R') (a : Addr) : ExtS L (Mini.hide a R) (Mini.hide a R') := by
  have to : ∀ {b : Addr} {q : Spec}, b ≠ a → R' b = some q → Mini.hide a R' b = some q := fun hb e => (hide_ne _ hb).trans e
  exact ⟨fun b sp h => (x.dom b sp (hide_back h).2).imp fun _ e => to (hide_back h).1 e, fun b r v h => (x.reg b r v (hide_back h).2).imp fun _ e => to (hide_back h).1 e,
    fun m h => (x.selfv m (hide_back h).2).imp fun _ e => ⟨to (hide_back h).1 e.1, e.2⟩, fun b sp h ho hr => to (hide_back h).1 (x.old b sp (hide_back h).2 ho hr)⟩
theorem hide2_at {a b c : Addr} {R : RM} (h1 : c ≠ a) (h2 : c ≠ b) : hide a (hide b R) c = R c := by rw [hide_ne _ h1, hide_ne _ h2]
section
variable {B : Bs} {A : Around} {C : CallT} {ev : Evs} {sc : Scope} {n : Nat}
theorem temp_inv {env : Env} {own : Bool} {σ : St} {Rm : RM} {s s' : Shared} {a : Addr} {c c' res : V} {u : Value} (I : Inv B env own σ Rm s) (ha : Rm a = some (.temp c)) (h : SetAt B Rm s a c' res u s') : Inv B env own σ (upd Rm a (.temp c')) s' := by
  obtain ⟨o', h', tk, ho', hr', hs, _⟩ := h
  obtain ⟨_, _, _, hz⟩ := I.hs.holds a _ ha
  have le : Le Rm (upd Rm a (.temp c')) := le_upd ha rfl fun _ e => ns e
  exact ⟨(I.hs.swap (sp' := .temp c') (tk := tk) ha rfl rfl hs ⟨o', ho', hr'.mono le, hz⟩ (.inl rfl) rfl rfl).1, I.fm.le le fun b q e hq => upd_keep ha e (inFrame_tag hq), I.rg.ext_same (upd_reg_iff ha rfl rfl)⟩
theorem inFrame_tag1 {q : Spec} (h : q.inFrame) : Nat.beq 1 q.tag = false := by
  cases q with
  | ns m => rfl
  | cell L x c => rfl
  | var L x v => rfl
  | _ => exact h.elim
theorem pin_inv {env : Env} {own : Bool} {σ : St} {Rm : RM} {s s' : Shared} {a : Addr} {o o' : Obj} (I : Inv B env own σ Rm s) (ha : Rm a = some (.pin o)) (H : HS B (upd Rm a (.pin o')) s') : Inv B env own σ (upd Rm a (.pin o')) s' :=
  ⟨H, I.fm.le (le_upd ha rfl fun _ e => ns e) fun b q e hq => upd_keep ha e (inFrame_tag1 hq), I.rg.ext_same (upd_reg_iff ha rfl rfl)⟩
theorem unpin_inv {env : Env} {own : Bool} {σ : St} {Rm : RM} {s s' : Shared} {a : Addr} {o : Obj} (I : Inv B env own σ Rm s) (ha : Rm a = some (.pin o)) (H : HS B (hide a Rm) s') : Inv B env own σ (hide a Rm) s' := by
  have k : ∀ b q r, q.regNo = some r → Rm b = some q → hide a Rm b = some q := fun b q r hq e => (hide_ne Rm fun hb => by
    rw [hb, ha] at e
    rw [← Option.some.inj e] at hq
    exact ns hq).trans e
  have le : Le Rm (hide a Rm) := ⟨fun b ob e => hide_keep ha e rfl, fun b r ⟨q, e, e'⟩ => ⟨q, k b q r e' e, e'⟩⟩
  exact ⟨H, I.fm.le le fun b q e hq => hide_keep ha e (inFrame_tag1 hq), I.rg.ext_same fun b r q hq => ⟨k b q r hq, fun e => (hide_back e).2⟩⟩
section
variable {t elt iter : Expr} {ifs : List Expr} {xs : List V} {R₀ : RM} {I D : Addr} {scope : Scope} {pos : Pos} {env : Env} {F : Feed B A R₀ I xs} {Rb : RM}
inductive LoopAt (B : Bs) (env : Env) (F : Feed B A R₀ I xs) (Rb : RM) (D : Addr) (i : Nat) (c : V) (σ : St) (s : Shared) : Prop
  | mk (R : RM) (o : Obj) (inv : Inv B env false σ R s) (ke : Ke R₀ R) (hI : R I = some (.pin o)) (hD : R D = some (.temp c)) (xx : ExtS env.locals (hide D (hide I Rb)) (hide D (hide I R))) (st : F.St i s.heap) : LoopAt B env F Rb D i c σ s
noncomputable def TurnQ (B : Bs) (A : Around) (env : Env) (t : Expr) (ifs : List Expr) (F : Feed B A R₀ I xs) (Rb : RM) (D : Addr) (i : Nat) (σ : St) (b : Bool) (σ₂ : St) : Prop :=
  ∀ c s stop yes no, LoopAt B env F Rb D i c σ s → (∀ s₃, LoopAt B env F Rb D (i + 1) c σ₂ s₃ → if b = true then yes s₃ else no s₃) → Turn B A env t (.ref I) ifs stop yes no s
theorem turn_sound (S2 : SoundB B A C ev sc) (rm : Room A n) (F : Feed B A R₀ I xs) (he : env.scope = sc) {i : Nat} {v : V} {σ : St} (hx : xs[i]? = some v) :
    Steps C (fun k => P.opt (bindTo true sc t v σ) fun σ₁ => testsE ev ifs σ₁ k) (TurnQ B A env t ifs F Rb D i σ) := fun k K =>
  .opt fun σ₁ hb => tests_sound S2 ifs σ₁ _ fun b σ₂ tt => K _ _ fun c s stop yes no ⟨R, o, Inv₀, ke, hI, hD, xx, st⟩ fin => (F.next Inv₀.hs ke hI st hx).mono fun q s₁ h => by
    obtain ⟨u, o', hu, H₁, st₁⟩ := h
    refine F.owned st₁ ?_
    have I₁ := pin_inv Inv₀ hI H₁
    have kp := ke_upd (sp' := .pin o') hI rfl rfl
    have ke₁ := ke.trans kp
    have hD₁ : upd R I (.pin o') D = some (.temp c) := upd_keep hI hD rfl
    refine (target_sound he (.inr rfl) rm.hd I₁ (hu.mono kp.le) σ₁ hb).mono fun _ s₂ ⟨R₂, I₂, x₂, k₂⟩ => ?_
    have hI₂ : R₂ I = some (.pin o') := k₂ I _ (upd_same ..) rfl rfl
    have hD₂ : R₂ D = some (.temp c) := k₂ D _ hD₁ rfl rfl
    have ke₂ := ke₁.trans x₂.ke
    have st₂ : F.St (i + 1) s₂.heap := F.keep H₁ I₂.hs ke₁ ke₂ (upd_same ..) hI₂ st₁
    refine Runs.go tt he I₂ fun R₃ ok s₃ I₃ x₃ e => ?_
    rw [show ok = b from e]
    have ke₃ := ke₂.trans x₃.ke
    have a1 := ((x₂.trans x₃.toS).hide I).hide D
    rw [hide_upd] at a1
    exact fin s₃ ⟨R₃, o', I₃, ke₃, x₃.pin hI₂, x₃.temp hD₂, xx.trans a1, F.keep I₂.hs I₃.hs ke₂ ke₃ hI₂ (x₃.pin hI₂) st₂⟩
theorem LoopAt.ne {i : Nat} {c : V} {σ : St} {s : Shared} (h : LoopAt B env F Rb D i c σ s) : I ≠ D := by
  obtain ⟨R, o, _, _, hI, hD, _, _⟩ := h
  exact fun q => tag_ne ((q ▸ hI).symm.trans hD) rfl
inductive LoopEnd (B : Bs) (env : Env) (σe : St) (Rb : RM) (I D : Addr) (c : V) : Result → Shared → Prop
  | mk (s' : Shared) (R' : RM) (inv : Inv B env false σe R' s') (xx : ExtS env.locals (hide D (hide I Rb)) (hide D (hide I R'))) (hD : R' D = some (.temp c)) : LoopEnd B env σe Rb I D c (.ok .next) s'
theorem loop_stop {σ : St} {c : V} {i : Nat} {s : Shared} (hi : i = xs.length) (h : LoopAt B env F Rb D i c σ s) {yes no : Shared → Prop} : Turn B A env t (.ref I) ifs (LoopEnd B env σ Rb I D c (.ok .next)) yes no s := by
  have hne := h.ne
  obtain ⟨R, o, Ii, ke, hI, hD, xx, st⟩ := h
  rw [hi] at st
  refine (F.stop Ii.hs hI st).mono fun q s₁ ⟨e, H⟩ => ?_
  rw [e]
  exact ⟨s₁, _, unpin_inv Ii hI H, by rw [hide_hide]; exact xx, (hide_ne _ hne.symm).trans hD⟩
theorem drop_at {i : Nat} {v : V} {ys : List V} (h : xs.drop i = v :: ys) : xs[i]? = some v ∧ xs.drop (i + 1) = ys := drop_cons h
inductive LInv (C : CallT) (sc : Scope) (ev : Evs) (t elt : Expr) (ifs : List Expr) (B : Bs) (env : Env) (F : Feed B A R₀ I xs) (Rb : RM) (D : Addr) (σe : St) (vs : List V) (k : Nat) (s : Shared) : Prop
  | mk (i : Nat) (σ : St) (done rest : List V) (hk : i + k = xs.length) (h : P.run C (eachL sc ev t ifs elt (xs.drop i) σ) = some (rest, σe)) (hv : done ++ rest = vs) (a : LoopAt B env F Rb D i (.list done) σ s) : LInv C sc ev t elt ifs B env F Rb D σe vs k s
theorem append_at {done : List V} {y : V} {R₀ : RM} {F : Feed B A R₀ I xs} {i : Nat} {σ σ₃ : St} {s₃ : Shared} {he : env.scope = sc} {Q : Value → Shared → Prop} (hf : fits (done.length + 1) = true) (te : VQ B A sc elt σ y σ₃) (a : LoopAt B env F Rb D i (.list done) σ s₃)
    (k : ∀ s₅ u, LoopAt B env F Rb D i (.list (done ++ [y])) σ₃ s₅ → Q u s₅) : T B A (eval elt env) (fun x s₄ => T B A (call (.builtin "list.append") [.ref D, x]) Q s₄) s₃ := by
  have hne := a.ne
  obtain ⟨R₃, o₃, I₃, ke₃, hI₃, hD₃, x₃, st₃⟩ := a
  refine Runs.go te he I₃ fun R₄ x s₄ I₄ x₄ r₄ => ?_
  have hD₄ := x₄.temp hD₃
  obtain ⟨ob, hob, hro, hz⟩ := I₄.hs.holds D _ hD₄
  have hadd : ownDo .append (.list done) [y] = some (.list (done ++ [y]), .none) := by
    show ((addList done [y]).map fun r => (V.list r, V.none)) = _
    unfold addList
    rw [show fits (done.length + [y].length) = true from hf]
    rfl
  refine T.mono (own_do (A := A) (op := .append) I₄.hs hob hz hro (fun o' q => tag_ne (hD₄.symm.trans q) rfl) (.cons _ _ _ _ r₄ .nil) _ hadd) fun u s₅ g => k s₅ u ?_
  have I₅ := temp_inv I₄ hD₄ g
  have ke₄ := ke₃.trans x₄.ke
  have ke₅ : Ke R₀ (upd R₄ D (.temp (.list (done ++ [y])))) := ke₄.trans (ke_upd hD₄ rfl rfl)
  have hI₅ : upd R₄ D (.temp (.list (done ++ [y]))) I = some (.pin o₃) := (upd_ne _ _ hne).trans (x₄.pin hI₃)
  refine ⟨_, o₃, I₅, ke₅, hI₅, upd_same .., ?_, F.keep I₃.hs I₅.hs ke₃ ke₅ hI₃ hI₅ st₃⟩
  rw [hide_comm D I (upd _ _ _), hide_upd, hide_comm I D]
  exact x₃.trans ((x₄.toS.hide I).hide D)
theorem eachL_sound (S : SoundE B A C ev sc) (S2 : SoundB B A C ev sc) (rm : Room A n) (F : Feed B A R₀ I xs) (he : env.scope = sc) {σ σe : St} {vs : List V} (h : P.run C (eachL sc ev t ifs elt xs σ) = some (vs, σe)) (hf : fits (xs.length + vs.length) = true) {Rb : RM} {s : Shared} {o : Obj}
    (Ib : Inv B env false σ Rb s) (ke : Ke R₀ Rb) (hI : Rb I = some (.pin o)) (hD : Rb D = some (.temp (.list []))) (st : F.St 0 s.heap) :
    codeAny (model PW B.w) A (.compLoop (.ListComp elt [⟨t, iter, ifs, 0⟩] scope pos) 0 (.ref I) (.ref D) env) (LoopEnd B env σe Rb I D (.list vs)) s := by
  refine compLoop_T (LInv C sc ev t elt ifs B env F Rb D σe vs) ?_ _ ⟨0, σ, [], vs, Nat.zero_add _, h, rfl, Rb, o, Ib, ke, hI, hD, .refl _ _, st⟩
  rintro k s ⟨i, σ, done, rest, hk, h, hv, a⟩
  cases hd : xs.drop i with
  | nil =>
    rw [hd] at h
    cases h
    rw [List.append_nil] at hv
    rw [hv] at a
    exact loop_stop (Nat.le_antisymm (hk ▸ Nat.le_add_right ..) (List.drop_eq_nil_iff.mp hd)) a
  | cons v ys =>
    rw [hd] at h
    obtain ⟨hx, hd⟩ := drop_at hd
    have hlt := (List.getElem?_eq_some_iff.mp hx).1
    cases k with
    | zero => rw [← hk] at hlt; exact absurd hlt (Nat.lt_irrefl _)
    | succ k =>
    have hk' : i + 1 + k = xs.length := by rw [Nat.succ_add]; exact hk
    refine turn_sound (D := D) (Rb := Rb) (Z := fun p => p = (rest, σe) → Turn B A env t (.ref I) ifs _ _ _ s) S2 rm F he hx _ (fun b σ₂ tt => .br (fun e => S.v elt σ₂ _ fun y σ₃ te => .bind fun p hp => .ret fun q => ?_) fun e p hp q => ?_) _ h rfl
    · cases q
      refine tt _ _ _ _ _ a fun s₃ a₃ => ?_
      rw [if_pos e]
      refine append_at (he := he) ?_ te a₃ fun s₅ u a₅ => ⟨k, Nat.lt_succ_self _, i + 1, σ₃, done ++ [y], p.1, hk', by rw [hd]; exact hp, by rw [List.append_assoc]; exact hv, a₅⟩
      have := fits_size hf
      rw [← hv, List.length_append, List.length_cons] at this
      exact Nat.ble_eq_true_of_le (by omega)
    · refine tt _ _ _ _ _ a fun s₃ a₃ => ?_
      rw [e, if_neg Bool.false_ne_true]
      exact ⟨k, Nat.lt_succ_self _, i + 1, σ₂, done, rest, hk', by rw [hd, hp, q], hv, a₃⟩
end
end
end Mini
namespace Mini
noncomputable def closeOver (env : Env) (l : List (Str × NameKind)) (acc : List (Str × Addr)) : Sem (List (Str × Addr)) :=
  forIn l acc fun x cs => match x with | (name, kind) => if kind == .free then do let c ← cellOf env name; pure (ForInStep.yield ((name, c) :: cs)) else pure (ForInStep.yield cs)
theorem close_free {env : Env} {n : Str} {l : List (Str × NameKind)} {acc : List (Str × Addr)} {c : Addr} (hc : env.cells.lookup n = some c) : closeOver env ((n, .free) :: l) acc = closeOver env l ((n, c) :: acc) := by
  unfold closeOver
  rw [List.forIn_cons]
  show (do let r ← (if (NameKind.free == NameKind.free) = true then do let c ← cellOf env n; pure (ForInStep.yield ((n, c) :: acc)) else pure (ForInStep.yield acc) : Sem _); _) = _
  rw [if_pos (show (NameKind.free == NameKind.free) = true from rfl), show cellOf env n = pure c by unfold cellOf; rw [hc]]
  rfl
theorem close_other {env : Env} {n : Str} {k : NameKind} {l : List (Str × NameKind)} {acc : List (Str × Addr)} (hk : (k == NameKind.free) = false) : closeOver env ((n, k) :: l) acc = closeOver env l acc := by
  unfold closeOver
  rw [List.forIn_cons]
  show (do let r ← (if (k == NameKind.free) = true then do let c ← cellOf env n; pure (ForInStep.yield ((n, c) :: acc)) else pure (ForInStep.yield acc) : Sem _); _) = _
  rw [hk, if_neg Bool.false_ne_true]
  rfl
theorem closure_of {env : Env} {l : List (Str × NameKind)} : ∀ (acc : List (Str × Addr)), (∀ x ∈ l, x.2 = .free → ∃ c, env.cells.lookup x.1 = some c) → (∀ x c, acc.lookup x = some c → env.cells.lookup x = some c) →
    ∃ cl, closeOver env l acc = pure cl ∧ (∀ x c, cl.lookup x = some c → env.cells.lookup x = some c) ∧ (∀ x, (acc.lookup x).isSome → (cl.lookup x).isSome) ∧ ∀ x, (x, NameKind.free) ∈ l → (cl.lookup x).isSome := by
  induction l with
  | nil => exact fun acc _ ha => ⟨acc, rfl, ha, fun _ h => h, fun _ h => nomatch h⟩
  | cons p l ih =>
    intro acc h ha
    obtain ⟨n, k⟩ := p
    cases hk : k == NameKind.free with
    | true =>
      have hk := beq_iff_eq.mp hk
      obtain ⟨c, hc⟩ := h (n, k) List.mem_cons_self hk
      obtain ⟨cl, e, h1, h2, h3⟩ := ih ((n, c) :: acc) (fun x hx => h x (List.mem_cons_of_mem _ hx)) fun x c' e => by
        rw [List.lookup_cons] at e
        cases hx : x == n with
        | true => rw [hx] at e; rw [← Option.some.inj e, beq_iff_eq.mp hx]; exact hc
        | false => rw [hx] at e; exact ha x c' e
      have hn : (cl.lookup n).isSome := h2 n (by rw [List.lookup_cons, beq_self_eq_true]; rfl)
      refine ⟨cl, by rw [hk, close_free hc]; exact e, h1, fun x hx => ?_, fun x hx => ?_⟩
      · cases e : x == n with
        | true => rw [beq_iff_eq.mp e]; exact hn
        | false => exact h2 x (by rw [List.lookup_cons, e]; exact hx)
      · rcases List.mem_cons.mp hx with e | e
        · rw [show x = n from congrArg Prod.fst e]; exact hn
        · exact h3 x e
    | false =>
      obtain ⟨cl, e, h1, h2, h3⟩ := ih acc (fun x hx => h x (List.mem_cons_of_mem _ hx)) ha
      refine ⟨cl, by rw [close_other hk]; exact e, h1, h2, fun x hx => ?_⟩
      rcases List.mem_cons.mp hx with e | e
      · rw [← show NameKind.free = k from congrArg Prod.snd e] at hk; exact nomatch hk
      · exact h3 x e
theorem closureFor_of {env : Env} {scope : Scope} (h : ∀ x ∈ scope.names, x.2 = .free → ∃ c, env.cells.lookup x.1 = some c) :
    ∃ cl, closureFor scope env = pure cl ∧ (∀ x c, cl.lookup x = some c → env.cells.lookup x = some c) ∧ ∀ x, (x, NameKind.free) ∈ scope.names → (cl.lookup x).isSome := by
  obtain ⟨cl, e, h1, _, h3⟩ := closure_of (env := env) (l := scope.names) [] h (fun _ _ e => ns e)
  refine ⟨cl, ?_, h1, h3⟩
  unfold closureFor
  refine Eq.trans ?_ (congrArg (fun t => t >>= fun cs => pure cs) e)
  rfl
noncomputable def Bears (ρ : Rho) (x : Str) (v : V) : Prop := ∃ sl, ρ.lookup x = some sl ∧ sl.v? = some v
structure CapK (sc : Scope) (all : List (Str × NameKind)) (x : Str) (k : NameKind) : Prop where
  free : k = .free → sc.names.lookup x = some .cell ∧ all.lookup x = some .free
  cell : k ≠ .cell
  loc : k = .local → all.lookup x = some .local
structure CapV (sc : Scope) (all : List (Str × NameKind)) (ρ : Rho) (l : List (Str × NameKind)) (x : Str) (v : V) : Prop where
  mem : (x, NameKind.free) ∈ l
  cell : sc.names.lookup x = some .cell
  free : all.lookup x = some .free
  bears : Bears ρ x v
structure Capt (sc : Scope) (all : List (Str × NameKind)) (ρ : Rho) (l : List (Str × NameKind)) (ρc : Rho) : Prop where
  kinds : ∀ x k, (x, k) ∈ l → CapK sc all x k
  vals : ∀ x sl, ρc.lookup x = some sl → ∃ v, sl = .val v ∧ CapV sc all ρ l x v
section
variable {sc : Scope} {all : List (Str × NameKind)} {ρ : Rho} {l : List (Str × NameKind)} {y : Str} {k : NameKind}
theorem CapV.up {x : Str} {v : V} (h : CapV sc all ρ l x v) : CapV sc all ρ ((y, k) :: l) x v := ⟨List.mem_cons_of_mem _ h.mem, h.cell, h.free, h.bears⟩
theorem Capt.skip {c : Rho} (h : Capt sc all ρ l c) (hk : CapK sc all y k) : Capt sc all ρ ((y, k) :: l) c :=
  ⟨fun x k' hx => (List.mem_cons.mp hx).elim (fun e => by cases e; exact hk) (h.kinds x k'), fun x sl hx => (h.vals x sl hx).imp fun v q => ⟨q.1, q.2.up⟩⟩
theorem captured_spec : ∀ {l : List (Str × NameKind)}, Gv (Capt sc all ρ l) (captured sc all ρ l)
  | [] => .some ⟨(fun _ _ h => nomatch h), fun _ _ h => ns h⟩
  | (y, k) :: l => .bindG captured_spec fun c hc => by
    cases k with
    | free =>
      refine .gdo fun h1 => .gdo fun h2 => .bind fun sl h3 => .map fun v h4 => ⟨(hc.skip (y := y) (k := .free) ⟨fun _ => ⟨cell_inv h1, of_decide_eq_true h2⟩, (fun e => nomatch e), fun e => nomatch e⟩).kinds, fun x sl' hx => ?_⟩
      rw [List.lookup_cons] at hx
      cases e : x == y with
      | true =>
        rw [e] at hx
        rw [← Option.some.inj hx, beq_iff_eq.mp e]
        exact ⟨v, rfl, List.mem_cons_self, cell_inv h1, of_decide_eq_true h2, sl, h3, h4⟩
      | false => rw [e] at hx; exact (hc.vals x sl' hx).imp fun v q => ⟨q.1, q.2.up⟩
    | cell => exact .none
    | «local» => exact .gdo fun h => .some (hc.skip ⟨(fun e => nomatch e), (fun e => nomatch e), fun _ => of_decide_eq_true h⟩)
    | globalExplicit => exact .some (hc.skip ⟨(fun e => nomatch e), (fun e => nomatch e), fun e => nomatch e⟩)
    | globalImplicit => exact .some (hc.skip ⟨(fun e => nomatch e), (fun e => nomatch e), fun e => nomatch e⟩)
end
theorem thaw1_free {ρ : Rho} {x : Str} : (∃ v, ρ.lookup x = some (.own v) ∧ thaw1 ρ x .free = setv ρ x (.val v)) ∨ ((∀ v, ρ.lookup x ≠ some (.own v)) ∧ thaw1 ρ x .free = ρ) := by
  unfold thaw1
  cases h : (ρ.lookup x).bind Slot.own? with
  | none => exact .inr ⟨(fun v e => by rw [e] at h; exact ns (show none = some v from h.symm)), rfl⟩
  | some v =>
    obtain ⟨sl, h1, h2⟩ := bnd h
    exact .inl ⟨v, by rw [h1, Slot.own_eq h2], rfl⟩
theorem thaw1_other {ρ : Rho} {x : Str} {k : NameKind} (h : k ≠ .free) : thaw1 ρ x k = ρ := by
  cases k with
  | free => exact (h rfl).elim
  | _ => rfl
section
variable {x y : Str} {v : V} {ρ : Rho} {k : NameKind}
theorem thaw1_val (h : ρ.lookup x = some (.val v)) : (thaw1 ρ y k).lookup x = some (.val v) := by
  by_cases hk : k = .free
  · rw [hk]
    rcases thaw1_free (ρ := ρ) (x := y) with ⟨w, h1, e⟩ | ⟨_, e⟩
    · rw [e, lookup_setv]
      by_cases hx : x = y
      · rw [hx, h1] at h; injection h with h; exact nomatch h
      · rw [if_neg hx]; exact h
    · rw [e]; exact h
  · rw [thaw1_other hk]; exact h
theorem thaw1_self (h : Bears ρ x v) : (thaw1 ρ x .free).lookup x = some (.val v) := by
  obtain ⟨sl, h1, h2⟩ := h
  rcases thaw1_free (ρ := ρ) (x := x) with ⟨w, h3, e⟩ | ⟨h3, e⟩
  · rw [e, lookup_setv, if_pos rfl]
    rw [h1] at h3
    rw [Option.some.inj h3] at h2
    rw [Option.some.inj (show some w = some v from h2)]
  · rw [e, h1]
    cases sl with
    | val w => rw [Option.some.inj (show some w = some v from h2)]
    | own w => exact (h3 w h1).elim
    | _ => exact ns h2
theorem thaw1_bears (h : Bears ρ x v) : Bears (thaw1 ρ y k) x v := by
  by_cases hk : k = .free
  · by_cases hx : x = y
    · rw [hk, ← hx]; exact ⟨_, thaw1_self h, rfl⟩
    · rw [hk]
      rcases thaw1_free (ρ := ρ) (x := y) with ⟨w, h1, e⟩ | ⟨_, e⟩
      · rw [e]; exact h.imp fun sl q => ⟨by rw [lookup_setv, if_neg hx]; exact q.1, q.2⟩
      · rw [e]; exact h
  · rw [thaw1_other hk]; exact h
end
theorem thaw_val {x : Str} {v : V} : ∀ (l : List (Str × NameKind)) {ρ : Rho}, ρ.lookup x = some (.val v) → (thaw ρ l).lookup x = some (.val v)
  | [], _, h => h
  | (_, _) :: l, _, h => thaw_val l (thaw1_val h)
theorem thaw_at {x : Str} {v : V} : ∀ (l : List (Str × NameKind)) {ρ : Rho}, (x, NameKind.free) ∈ l → Bears ρ x v → (thaw ρ l).lookup x = some (.val v)
  | [], _, h, _ => nomatch h
  | (y, k) :: l, ρ, hm, h => (List.mem_cons.mp hm).elim (fun e => by cases e; exact thaw_val l (thaw1_self h)) fun hm => thaw_at l hm (thaw1_bears h)
section
variable {B : Bs} {env : Env} {own : Bool}
inductive Thawed (B : Bs) (env : Env) (own : Bool) (σ : St) (Rm : RM) (s : Shared) : Prop
  | mk (R' : RM) (i : Inv B env own σ R' s) (x : Ext (some env.locals) Rm R') (z : ∀ b, Rm b = none → R' b = none) : Thawed B env own σ Rm s
theorem thaw1_inv {y : Str} {k : NameKind} {ρ : Rho} {μ : Mu} {Rm : RM} {s : Shared} (I : Inv B env own (ρ, μ) Rm s) : Thawed B env own (thaw1 ρ y k, μ) Rm s := by
  by_cases hk : k = .free
  · rw [hk]
    rcases thaw1_free (ρ := ρ) (x := y) with ⟨v, hv, e⟩ | ⟨_, e⟩
    · rw [e]
      obtain ⟨ov, hat, a, rfl, ha⟩ := I.fm.vars y _ hv
      obtain ⟨o, ho, hv', H, le, hv2, hz⟩ := I.hs.freeze ha rfl
      exact ⟨_, ⟨H, I.fm.own_upd (sl' := .val v) ha le (fun ov2 h1 h2 => ⟨_, (h1.back rfl rfl).det hat, .obj _ _ o hz (upd_same ..) hv2⟩) hv, I.rg.ext_same (upd_reg_iff ha rfl rfl)⟩, ext_upd_own ha, fun b hb => (upd_ne _ _ fun q => by rw [q, ha] at hb; exact nomatch hb).trans hb⟩
    · rw [e]; exact ⟨Rm, I, .refl _ _, fun _ h => h⟩
  · rw [thaw1_other hk]; exact ⟨Rm, I, .refl _ _, fun _ h => h⟩
theorem thaw_inv : ∀ (l : List (Str × NameKind)) {ρ : Rho} {μ : Mu} {Rm : RM} {s : Shared}, Inv B env own (ρ, μ) Rm s → Thawed B env own (thaw ρ l, μ) Rm s
  | [], ρ, μ, Rm, s, I => ⟨Rm, I, .refl _ _, fun _ h => h⟩
  | (y, k) :: l, ρ, μ, Rm, s, I => let ⟨_, I₁, x₁, z₁⟩ := thaw1_inv (y := y) (k := k) I; let ⟨R₂, I₂, x₂, z₂⟩ := thaw_inv l I₁; ⟨R₂, I₂, x₁.trans x₂, fun b h => z₂ b (z₁ b h)⟩
end
end Mini
namespace Mini
section
variable {B : Bs} {A : Around} {R R' : RM} {s s' : Shared}
noncomputable def dropOwn (C : Addr) (h : Heap) (R : RM) : RM := fun b => if b = C then none else match R b with
  | none => none
  | some sp => if sp.owner b = some C then (h.get? b).map .pin else some sp
theorem drop_keep {C : Addr} {h : Heap} {b : Addr} {sp : Spec} {m : Str → Option Value} (hC : R C = some (.ns m)) (e : R b = some sp) (ho : sp.owner b ≠ some C) : dropOwn C h R b = some sp := by
  have hb : b ≠ C := fun q => by
    rw [q, hC] at e
    rw [q, ← Option.some.inj e] at ho
    exact ho rfl
  unfold dropOwn
  rw [if_neg hb, e]
  exact if_neg ho
theorem drop_inv {C : Addr} {h : Heap} {b : Addr} {sp : Spec} (e : dropOwn C h R b = some sp) : b ≠ C ∧ ((R b = some sp ∧ sp.owner b ≠ some C) ∨ ∃ o, sp = .pin o ∧ h.get? b = some o) := by
  unfold dropOwn at e
  by_cases hb : b = C
  · rw [if_pos hb] at e; exact ns e
  · rw [if_neg hb] at e
    refine ⟨hb, ?_⟩
    cases hR : R b with
    | none => rw [hR] at e; exact ns e
    | some sp' =>
      rw [hR] at e
      by_cases ho : sp'.owner b = some C
      · obtain ⟨o, h1, h2⟩ := Option.map_eq_some_iff.mp ((if_pos ho).symm.trans e)
        exact .inr ⟨o, h2.symm, h1⟩
      · have e := (if_neg ho).symm.trans e
        exact .inl ⟨e, by rw [← Option.some.inj e]; exact ho⟩
theorem Spec.reg_owner {sp : Spec} {r : Nat} (h : sp.regNo = some r) (a : Addr) : sp.owner a = none := by
  cases sp with
  | reg q v => rfl
  | held q o => rfl
  | _ => exact Mini.ns h
theorem drop_le {C : Addr} {h : Heap} {m : Str → Option Value} (hC : R C = some (.ns m)) : Le R (dropOwn C h R) :=
  ⟨fun b o e => drop_keep hC e (fun e => nomatch e), fun b r ⟨sp, e, e'⟩ => ⟨sp, drop_keep hC e (by rw [Spec.reg_owner e']; exact fun e => nomatch e), e'⟩⟩
theorem drop_HS {C : Addr} {m : Str → Option Value} {h' : Heap} (H : HS B R s) (hC : R C = some (.ns m)) (hs : Heap.SameBut C s.heap h') : HS B (dropOwn C s.heap R) { s with heap := h' } := by
  have reg : ∀ b r, RegAt (dropOwn C s.heap R) b r → RegAt R b r := fun b r ⟨sp, e, e'⟩ => by
    rcases (drop_inv e).2 with h | ⟨o, h, _⟩
    · exact ⟨sp, h.1, e'⟩
    · rw [h] at e'; exact ns e'
  refine ⟨fun b sp e => ?_, fun b o e => drop_keep hC (H.base b o e) (fun e => nomatch e), fun b sp L e eo => ?_, fun a b r e1 e2 => H.regs a b r (reg a r e1) (reg b r e2), H.gens, H.os⟩
  · obtain ⟨hb, h | ⟨o, h1, h⟩⟩ := drop_inv e
    · exact (H.holds b sp h.1).mono (drop_le hC) fun o y => (hs.2 b hb).trans y
    · rw [h1]; exact (hs.2 b hb).trans h
  · rcases (drop_inv e).2 with h | ⟨o, h, _⟩
    · exact (H.own b sp L h.1 eo).imp fun m' hm' => drop_keep hC hm' (fun q => h.2 (by rw [eo]; exact q))
    · rw [h] at eo; exact ns eo
theorem drop_regs {C : Addr} {h : Heap} {m : Str → Option Value} {μ : Mu} (G : RegsOK R μ) (hC : R C = some (.ns m)) : RegsOK (dropOwn C h R) μ :=
  G.ext_same fun a r sp hr => ⟨fun e => drop_keep hC e (by rw [Spec.reg_owner hr]; exact fun e => nomatch e), fun e => by
    rcases (drop_inv e).2 with h | ⟨o, h, _⟩
    · exact h.1
    · rw [h] at hr; exact ns hr⟩
theorem drop_ext {C : Addr} {h : Heap} {m : Str → Option Value} (x : Ext none R R') (hn : R C = none) (H : HS B R s) (hC : R' C = some (.ns m)) : Ext none R (dropOwn C h R') := by
  have no : ∀ b q, R b = some q → q.owner b ≠ some C := fun b q e ho => by
    obtain ⟨m, hm⟩ := H.own b q C e ho
    rw [hn] at hm; exact ns hm
  have st : ∀ b q, R b = some q → Stays none (dropOwn C h R') b q := fun b q e => by
    have h1 := x.old b q e
    cases q with
    | reg r v => exact h1.imp fun v' h' => drop_keep hC h' fun e => nomatch e
    | var L y v => exact fun _ => drop_keep hC (h1 (.inl rfl)) (no b _ e)
    | _ => exact drop_keep hC h1 (no b _ e)
  refine ⟨fun b q e => ?_, st⟩
  have h1 := st b q e
  cases q with
  | reg r v => exact h1.elim fun v' h' => ⟨_, h'⟩
  | var L y v => exact ⟨_, h1 (.inl rfl)⟩
  | _ => exact ⟨_, h1⟩
theorem drop_fm {C : Addr} {h : Heap} {m : Str → Option Value} {env : Env} {ρ : Rho} (F : Fm B env true R ρ) (hC : R C = some (.ns m)) (hL : env.locals ≠ C) : Fm B env true (dropOwn C h R) ρ := by
  have kp : ∀ {c sp}, sp.owner c = some env.locals → R c = some sp → dropOwn C h R c = some sp := fun ho e => drop_keep hC e (fun q => hL (Option.some.inj (ho.symm.trans q)))
  refine ⟨F.kind, F.glob, F.blt, F.ns.imp fun m' e => kp rfl e, fun x hx => ?_, fun x sl hx => ?_⟩
  · obtain ⟨c, L, w, a, b, d⟩ := F.cell x hx
    exact ⟨c, L, w, a, kp (by rw [d rfl]; rfl) b, d⟩
  · obtain ⟨ov, a, b⟩ := F.vars x sl hx
    refine ⟨ov, ?_, b.mono (drop_le hC) fun a v e => kp rfl e⟩
    rcases a with ⟨k, m', e1, e2⟩ | ⟨k, c, L, e1, e2⟩
    · exact .inl ⟨k, m', kp rfl e1, e2⟩
    · obtain ⟨c', L', w, a, b, d⟩ := F.cell x k
      have hc := Option.some.inj (e1.symm.trans a)
      rw [← hc] at b
      have e := Option.some.inj (e2.symm.trans b)
      injection e with e
      exact .inr ⟨k, c, L, e1, kp (by rw [e, d rfl]; rfl) e2⟩
theorem reg_tag {sp : Spec} {r : Nat} (h : sp.regNo = some r) : Nat.beq sp.tag 0 = false ∧ ∀ {q : Spec}, q.inFrame → Nat.beq sp.tag q.tag = false := by
  cases sp with
  | reg q v => exact ⟨rfl, fun h => by cases ‹Spec› <;> first | rfl | exact h.elim⟩
  | held q o => exact ⟨rfl, fun h => by cases ‹Spec› <;> first | rfl | exact h.elim⟩
  | _ => exact ns h
theorem reg_upd {env : Env} {own : Bool} {ρ : Rho} {μ : Mu} {a : Addr} {r : Nat} {v' : V} {sp sp' : Spec} (I : Inv B env own (ρ, μ) R s) (ha : R a = some sp) (hr : sp.regNo = some r) (hlt : r < μ.length) (hr' : sp' = .reg r v' ∨ (v' = .fn 99 ∧ ∃ o, sp' = .held r o))
    (hh : ∀ R', Le R R' → Holds B.w R' s.heap a sp') : Inv B env own (ρ, muSet μ r v') (upd R a sp') s ∧ Le R (upd R a sp') := by
  have hrn : sp'.regNo = some r := by rcases hr' with e | ⟨_, o, e⟩ <;> rw [e] <;> rfl
  obtain ⟨h0, hf⟩ := reg_tag hr
  have le : Le R (upd R a sp') := le_upd ha h0 (fun q e => hrn.trans (hr.symm.trans e))
  have C := I.hs.change (sp' := sp') (tk := s.toks) ha h0 (fun _ _ _ e => e) (hh _ le) (fun e => by have := hf (q := .ns fun _ => none) trivial; rw [e] at this; exact nomatch this) (fun L e => by rw [Spec.reg_owner hrn] at e; exact ns e) (fun q e => hrn.trans (hr.symm.trans e)) (fun q e => .inl (hr.trans (hrn.symm.trans e)))
  exact ⟨⟨C.1, I.fm.le le fun b q e hq => upd_keep ha e (hf hq), I.rg.put ha (fun q e => Option.some.inj (e.symm.trans hr)) hlt hr'⟩, le⟩
inductive Locked (B : Bs) (A : Around) (env : Env) (own : Bool) (ρ : Rho) (R : RM) (s : Shared) (u : Value) (xs : List V) (μ : Mu) (back : Mu → Mu) : Prop
  | mk (R₃ : RM) (i : Inv B env own (ρ, μ) R₃ s) (it : T B A (pyIter u) (Begun B A R₃ xs s) s) (z : ∀ b, R b = none ↔ R₃ b = none)
    (un : ∀ ρ' μ' R₇ s', Inv B env own (ρ', μ') R₇ s' → Ext none R₃ R₇ → ∃ R₈, Inv B env own (ρ', back μ') R₈ s' ∧ Ext none R R₈ ∧ ∀ b, R₃ b = none → R₈ b = R₇ b) : Locked B A env own ρ R s u xs μ back
theorem lock_reg {n : Nat} (rm : Room A n) {env : Env} {own : Bool} {ρ : Rho} {μ₀ : Mu} {r : Nat} {c : V} {u : Value} {xs : List V} (hv : RepV B.w R (.reg r) u) (hr : regVal μ₀ r = some c) (hx : c.list? = some xs) (hf : fits xs.length = true) (I : Inv B env own (ρ, μ₀) R s) : Locked B A env own ρ R s u xs (muSet μ₀ r (.fn 99)) (fun μ' => muSet μ' r (.list xs)) := by
  obtain ⟨a, rfl, ha, hm⟩ := regVal_at (σ := (ρ, μ₀)) I hv hr
  obtain ⟨o, ho, hro, hz⟩ := I.hs.holds a _ ha
  have hlt : r < μ₀.length := muGet_lt hm
  obtain ⟨I₃, le⟩ := reg_upd (v' := .fn 99) (sp' := .held r o) I ha rfl hlt (.inr ⟨rfl, o, rfl⟩) (fun R' _ => ⟨ho, hz⟩)
  refine ⟨_, I₃, ?_, fun b => ?_, fun ρ' μ' R₇ s' I₇ x => ?_⟩
  · obtain ⟨items, ep, rfl, hr⟩ := hro.list_of hx
    have hl : IsL s.heap a items.toArray ep := ho
    obtain ⟨F, st⟩ := list_feed (A := A) (h := s.heap.push { cls := .type "list_iterator", data := .fields #[.ref a, .int 0 0] }) rm.hd (Nat.ne_of_lt (Heap.lt_size hl)) (.inr ⟨r, _, upd_same ..⟩) (hr.mono le) ⟨⟨_, Heap.get?_push_size _ rfl, rfl, rfl⟩, hl.isList.push _⟩
    exact wpAny_pyIter_list hl.isList ⟨_, rfl, F, st⟩
  · by_cases hb : b = a
    · rw [hb, ha, upd_same]; exact ⟨(fun h => nomatch h), fun h => nomatch h⟩
    · rw [upd_ne _ _ hb]
  · have ha₇ : R₇ a = some (.held r o) := x.old a _ (upd_same ..)
    have ho₇ := (I₇.hs.holds a _ ha₇).1
    cases V.list_eq hx
    obtain ⟨I₈, le₈⟩ := reg_upd (v' := .list xs) (sp' := .reg r (.list xs)) I₇ ha₇ rfl (by rw [I₇.rg.len, ← I.rg.len]; exact hlt) (.inl rfl) (fun R' l => ⟨o, ho₇, (hro.mono (le.trans x.le)).mono l, hz⟩)
    have to : ∀ {b q}, b ≠ a → R₇ b = some q → upd R₇ a (.reg r (.list xs)) b = some q := fun hb e => (upd_ne _ _ hb).trans e
    refine ⟨_, I₈, ⟨fun b q e => ?_, fun b q e => ?_⟩, fun b hb => upd_ne _ _ fun q => by rw [q, upd_same] at hb; exact nomatch hb⟩
    · by_cases hb : b = a
      · exact ⟨_, by rw [hb, upd_same]⟩
      · exact (x.dom b q ((upd_ne _ _ hb).trans e)).imp fun q' e => to hb e
    · by_cases hb : b = a
      · rw [hb, ha] at e
        rw [← Option.some.inj e, hb]
        exact ⟨_, upd_same ..⟩
      · have h1 := x.old b q ((upd_ne _ _ hb).trans e)
        cases q with
        | reg r' v => exact h1.imp fun v' e => to hb e
        | var L y v => exact fun n => to hb (h1 n)
        | _ => exact to hb h1
theorem lock_sound {n : Nat} (rm : Room A n) {env : Env} {own : Bool} {ρ : Rho} {μ₀ : Mu} {v : V} {u : Value} (I : Inv B env own (ρ, μ₀) R s) (hv : RepV B.w R v u) : Gv (fun q => fits q.1.length = true → Locked B A env own ρ R s u q.1 q.2.1 q.2.2) (overL μ₀ v) :=
  .els (fun r hr => .bind fun c hc => .map fun xs hx hf => by cases V.reg_eq hr; exact lock_reg rm hv hc hx hf I) fun _ => .map fun ys hy hf =>
    ⟨R, I, begin_sound I.hs rm.hd (show ((items v).bind fun xs => gdo (fits xs.length) (some xs)) = some ys by rw [hy]; show gdo (fits ys.length) _ = _; rw [hf]; rfl) hv, fun b => .rfl, fun ρ' μ' R₇ s' I₇ x => ⟨R₇, I₇, x, fun _ _ => rfl⟩⟩
end
end Mini
namespace Mini
noncomputable def inKind (b : Bool) (c : Option NameKind) (k : NameKind) : NameKind := if (k == NameKind.free && b && c == some NameKind.cell) then NameKind.cell else k
theorem lookup_relabel {b : Bool} {g : Str → Option NameKind} {x : Str} (l : List (Str × NameKind)) :
    (l.map fun (n, k) => if (k == NameKind.free && b && g n == some NameKind.cell) then (n, NameKind.cell) else (n, k)).lookup x = (l.lookup x).map (inKind b (g x)) := by
  induction l with
  | nil => rfl
  | cons p l ih =>
    obtain ⟨n, k⟩ := p
    have e : (if (k == NameKind.free && b && g n == some NameKind.cell) then (n, NameKind.cell) else (n, k)) = (n, inKind b (g n) k) := by
      unfold inKind
      by_cases h : (k == NameKind.free && b && g n == some NameKind.cell) = true
      · rw [if_pos h, if_pos h]
      · rw [if_neg h, if_neg h]
    show List.lookup x ((if (k == NameKind.free && b && g n == some NameKind.cell) = true then (n, NameKind.cell) else (n, k)) :: _) = _
    rw [e, List.lookup_cons, List.lookup_cons, ih]
    cases hx : x == n with
    | true => rw [beq_iff_eq.mp hx]; rfl
    | false => rfl
theorem relabel_scope {env : Env} {sc scope : Scope} (he : env.scope = sc) (hk : sc.kind = .function) : relabel scope env = reScope scope sc := by
  subst he
  unfold relabel reScope Env.kindOf
  rw [hk]
  simp only [show (ScopeKind.function == ScopeKind.function) = true from rfl, Bool.and_true]
section
variable {B : Bs} {A : Around} {R R' : RM} {s s' : Shared} {sc : Scope}
theorem inner_fm {env cenv : Env} {own : Bool} {scope : Scope} {ρ ρc : Rho} {cl : List (Str × Addr)} {m : Str → Option Value} (he : env.scope = sc) (F : Fm B env own R (thaw ρ scope.names)) (hc : Capt sc scope.names ρ scope.names ρc)
    (hcl : ∀ x c, cl.lookup x = some c → env.cells.lookup x = some c) (hcl' : ∀ x, (x, NameKind.free) ∈ scope.names → (cl.lookup x).isSome) (hk : scope.kind = .function)
    (h1 : cenv.scope = reScope scope sc) (h2 : cenv.globals = env.globals) (h3 : cenv.builtins = env.builtins) (h4 : cenv.cells = cl) (x : Ext none R R') (hC : R' cenv.locals = some (.ns m)) : Fm B cenv false R' ρc := by
  have look : ∀ y, cenv.kindOf y = (scope.names.lookup y).map (inKind true (sc.names.lookup y)) := fun y => by
    unfold Env.kindOf
    rw [h1]
    have := lookup_relabel (b := true) (g := fun n => sc.names.lookup n) (x := y) scope.names
    simp only [Bool.and_true] at this
    exact this
  have cell : ∀ y, (y, NameKind.free) ∈ scope.names → sc.names.lookup y = some .cell → ∃ c L w, cenv.cells.lookup y = some c ∧ env.cells.lookup y = some c ∧ R c = some (.cell L y w) := fun y hm hy => by
    obtain ⟨c, hc⟩ := Option.isSome_iff_exists.mp (hcl' y hm)
    obtain ⟨c', L, w, a, b, _⟩ := F.cell y (kind_of he hy)
    rw [Option.some.inj ((hcl y c hc).symm.trans a)] at hc
    exact ⟨c', L, w, by rw [h4]; exact hc, a, b⟩
  refine ⟨by rw [h1]; exact hk, h2.trans F.glob, h3.trans F.blt, ⟨m, hC⟩, fun y hy => ?_, fun y sl hy => ?_⟩
  · rw [look] at hy
    obtain ⟨k, hk, e⟩ := Option.map_eq_some_iff.mp hy
    have ck := hc.kinds y k (lookup_mem hk)
    have key : k = .free := by
      cases k with
      | free => rfl
      | cell => exact (ck.cell rfl).elim
      | _ => exact nomatch e
    obtain ⟨c, L, w, a, _, b⟩ := cell y (key ▸ lookup_mem hk) (ck.free key).1
    exact ⟨c, L, w, a, x.cell b, fun e => nomatch e⟩
  · obtain ⟨v, rfl, hv⟩ := hc.vals y sl hy
    obtain ⟨ov, hat, u, e, hr⟩ := F.vars y _ (thaw_at _ hv.mem hv.bears)
    obtain ⟨c, L, w, a, a', b⟩ := cell y hv.mem hv.cell
    refine ⟨ov, .inr ⟨by rw [look, hv.free, hv.cell]; rfl, c, L, a, ?_⟩, u, e, hr.mono x.le⟩
    rcases hat with ⟨q, _⟩ | ⟨_, c', L', e1, e2⟩
    · rw [kind_of he hv.cell] at q; exact nomatch q
    · rw [← Option.some.inj (a'.symm.trans e1), b] at e2
      rw [← (by injection e2 with e2; injection e2 : w = ov)]
      exact x.cell b
inductive CompDone (B : Bs) (env : Env) (own : Bool) (σ' : St) (Rm : RM) (c : V) (D C : Addr) (s' : Shared) : Prop
  | mk (R₂ R₈ : RM) (m : Str → Option Value) (i : Inv B env own σ' R₈ s') (x : Ext (some env.locals) Rm R₂) (y : Ext none R₂ R₈) (s₀ : Shared) (h : HS B R₂ s₀) (f : Fm B env own R₂ σ'.1) (nC : R₂ C = none) (nD : R₂ D = none) (hD : R₈ D = some (.temp c)) (hC : R₈ C = some (.ns m)) (hDC : D ≠ C) (hL : env.locals ≠ C) : CompDone B env own σ' Rm c D C s'
inductive Three (B : Bs) (R₃ : RM) (I D C : Addr) (o : Obj) (c₀ : V) (R₇ : RM) (s' : Shared) : Prop
  | mk (H : HS B R₇ s') (x : Ext none R₃ R₇) (g : Grow R₃ R₇) (hI : R₇ I = some (.pin o)) (hD : R₇ D = some (.temp c₀)) (m : Str → Option Value) (hC : R₇ C = some (.ns m)) (nI : R₃ I = none) (nD : R₃ D = none) (nC : R₃ C = none) (ID : I ≠ D) (DC : D ≠ C) : Three B R₃ I D C o c₀ R₇ s'
theorem three_new {R₃ : RM} {s₁ : Shared} {o oD : Obj} {c₀ : V} {h' : Heap} {m : Str → Option Value} {tk : Nat} (H : HS B R₃ s₁) (hof : o.isFreed = false) (hDf : oD.isFreed = false) (hDr : ∀ R, RepO B.w R c₀ oD) (hns : h'.Ns ((s₁.heap.push o).push oD).objs.size m) (hsb : Heap.SameBut ((s₁.heap.push o).push oD).objs.size (((s₁.heap.push o).push oD).push { cls := .type "dict", data := .dict #[] }) h') :
    ∃ R₇, Three B R₃ s₁.heap.objs.size (s₁.heap.push o).objs.size ((s₁.heap.push o).push oD).objs.size o c₀ R₇ { s₁ with heap := h', toks := tk } ∧ HS B (upd R₃ s₁.heap.objs.size (.pin o)) { s₁ with heap := s₁.heap.push o } := by
  have H₄ : HS B (upd R₃ s₁.heap.objs.size (.pin o)) { s₁ with heap := s₁.heap.push o } := H.alloc hof (Heap.get?_push_size _ hof) (fun _ e => ns e) rfl
  have H₅ := H₄.alloc (o := oD) (sp := .temp c₀) hDf ⟨oD, Heap.get?_push_size _ hDf, hDr _, H₄.sm⟩ (fun _ e => ns e) rfl
  have n1 : R₃ s₁.heap.objs.size = none := H.fresh
  have n2 : upd R₃ s₁.heap.objs.size (.pin o) (s₁.heap.push o).objs.size = none := H₄.fresh
  have n3 : upd (upd R₃ s₁.heap.objs.size (.pin o)) (s₁.heap.push o).objs.size (.temp c₀) ((s₁.heap.push o).push oD).objs.size = none := H₅.fresh
  have l1 : s₁.heap.objs.size < (s₁.heap.push o).objs.size := by rw [Heap.size_push]; exact Nat.lt_succ_self _
  have l2 : (s₁.heap.push o).objs.size < ((s₁.heap.push o).push oD).objs.size := by rw [Heap.size_push (s₁.heap.push o)]; exact Nat.lt_succ_self _
  have H₆ := (H₅.kept (s' := { s₁ with heap := h', toks := tk }) (fun b ob e => (hsb.2 b (Nat.ne_of_lt (Heap.lt_size e))).trans (Heap.get?_push_of_some _ e)) rfl rfl).add (sp := .ns m) n3 hns (fun L e => .inl ⟨(Option.some.inj e).symm, _, rfl⟩) rfl
  exact ⟨_, ⟨H₆, ((ext_upd_fresh n1).trans (ext_upd_fresh n2)).trans (ext_upd_fresh n3), ((Grow.upd n1 rfl).trans (.upd n2 rfl)).trans (.upd n3 rfl), upd_new n3 (upd_new n2 (upd_same ..)), upd_new n3 (upd_same ..), m, upd_same .., n1, H.none_of (Nat.le_of_lt l1), H.none_of (Nat.le_of_lt (Nat.lt_trans l1 l2)), Nat.ne_of_lt l1, Nat.ne_of_lt l2⟩, H₄⟩
theorem Three.after {R₃ R₇ R₈ : RM} {I D C : Addr} {o : Obj} {c₀ : V} {s₃ : Shared} (H : HS B R₃ s₃) (h : Three B R₃ I D C o c₀ R₇ s) (x₈ : ExtS C (hide D (hide I R₇)) (hide D (hide I R₈))) : Ext none R₃ R₈ := by
  obtain ⟨_, x, g, _, _, _, _, nI, nD, nC, _, _⟩ := h
  have key : ∀ b sp, R₃ b = some sp → hide D (hide I R₇) b = some sp ∧ sp.owner b ≠ some C ∧ hide D (hide I R₈) b = R₈ b := fun b sp e => by
    have h1 : b ≠ I := fun q => by rw [q, nI] at e; exact ns e
    have h2 : b ≠ D := fun q => by rw [q, nD] at e; exact ns e
    exact ⟨(hide2_at h2 h1).trans (g.old b sp e), fun q => by
      obtain ⟨m, hm⟩ := H.own b sp C e q
      rw [nC] at hm; exact ns hm, hide2_at h2 h1⟩
  refine ⟨fun b sp e => ?_, fun b sp e => ?_⟩
  · obtain ⟨a1, a2, a3⟩ := key b sp e
    exact (x₈.dom b sp a1).imp fun q hq => a3 ▸ hq
  · obtain ⟨a1, a2, a3⟩ := key b sp e
    cases sp with
    | reg r v => exact (x₈.reg b r v a1).imp fun v' h' => a3 ▸ h'
    | _ => exact .of (a3 ▸ x₈.old b _ a1 a2 fun _ _ e => nomatch e)
noncomputable def Starts (B : Bs) (A : Around) (sc scope : Scope) (e : Expr) (ρc : Rho) (μ : Mu) (xs : List V) (σe : St) (c₀ c : V) : Prop :=
  ∀ (cenv : Env) R₃ R₆ s₄ I D o (F : Feed B A R₃ I xs), cenv.scope = reScope scope sc → Inv B cenv false (ρc, μ) R₆ s₄ → Ke R₃ R₆ → R₆ I = some (.pin o) → R₆ D = some (.temp c₀) → F.St 0 s₄.heap →
    codeAny (model PW B.w) A (.compStart e 0 (.ref I) (.ref D) cenv) (LoopEnd B cenv σe R₆ I D c) s₄
noncomputable def Makes (B : Bs) (A : Around) (newAcc : Sem Value) (c₀ : V) : Prop := ∀ s (Q : Value → Shared → Prop), (∀ o, o.isFreed = false → (∀ R, RepO B.w R c₀ o) → Q (.ref s.heap.objs.size) { s with heap := s.heap.push o }) → T B A newAcc Q s
theorem compCore {e : Expr} {scope : Scope} {newAcc first : Sem Value} {σ σe : St} {ρc : Rho} {v : V} {σ₁ : St} {μ : Mu} {back : Mu → Mu} {xs : List V} {c c₀ : V} {n : Nat} (rm : Room A n)
    (ho : overL σ₁.2 v = some (xs, μ, back)) (hf : fits xs.length = true) (hc : captured sc scope.names σ₁.1 scope.names = some ρc) (hk : scope.kind = .function) (hacc : Makes B A newAcc c₀) (hstart : Starts B A sc scope e ρc μ xs σe c₀ c)
    {env : Env} {own : Bool} {Rm : RM} {s : Shared} (he : env.scope = sc) (I₀ : Inv B env own σ Rm s) (hf1 : T B A first (Post B env own σ₁ (some env.locals) Rm (PVal B.w v)) s)
    {U : Value → Addr → Result → Shared → Prop} (hU : ∀ D C s', CompDone B env own (thaw σ₁.1 scope.names, back σe.2) Rm c D C s' → U (.ref D) C (.ok .next) s') :
    ∃ cl, closureFor scope env = pure cl ∧ T B A first (fun x s₁ => T B A (pyIter x) (fun it s₂ => T B A newAcc (fun acc s₃ => T B A (newFunctionEnv scope env.globals cl [] env.qual none .none (some env)) (fun cenv s₄ =>
      codeAny (model PW B.w) A (.compStart e 0 it acc { cenv with scope := relabel scope env }) (U acc cenv.locals) s₄) s₃) s₂) s₁) s := by
  have hc := captured_spec ρc hc
  have hsk : sc.kind = .function := by rw [← he]; exact I₀.fm.kind
  obtain ⟨cl, hcl, l1, l2⟩ := closureFor_of (env := env) (scope := scope) fun x hx hf => by
    obtain ⟨c, _, _, a, _⟩ := I₀.fm.cell x.1 (kind_of he ((hc.kinds x.1 x.2 hx).free hf).1)
    exact ⟨c, a⟩
  refine ⟨cl, hcl, Post.go hf1 fun R₁ u s₁ I₁ x₁ r₁ => ?_⟩
  obtain ⟨R₂, I₂, x₂, z₂⟩ := thaw_inv scope.names (ρ := σ₁.1) (μ := σ₁.2) I₁
  obtain ⟨R₃, I₃, hit, z₃, unlock⟩ := lock_sound rm I₂ (RepV.mono x₂.le r₁) _ ho hf
  refine hit.mono fun it s₂ hb => ?_
  obtain ⟨o, hof, F, st⟩ := hb
  refine hacc _ _ fun oD hDf hDr => ?_
  refine wpAny_newFunctionEnv (fun x hx => (hc.kinds x.1 x.2 hx).cell) (fun x hx => nomatch hx) (fun h' hns hsb => ?_) hk
  obtain ⟨R₇, h₃, H₄⟩ := three_new I₃.hs hof hDf hDr hns hsb (tk := s₁.toks + ([] : List (Str × Value)).length)
  obtain ⟨H₇, x₇, g₇, hI, hD, m₇, hC, nI, nD, nC, ID, DC⟩ := id h₃
  have I₇ : Inv B { newEnv scope ((s₁.heap.push o).push oD).objs.size env.globals cl env.qual none .none (some env) builtinsNs with scope := relabel scope env } false (ρc, μ) R₇ { s₁ with heap := h', toks := s₁.toks + ([] : List (Str × Value)).length } :=
    ⟨H₇, inner_fm he I₃.fm hc l1 l2 hk (relabel_scope he hsk) rfl rfl rfl x₇ hC, I₃.rg.ext_same g₇.reg⟩
  have st₇ : F.St 0 h' := F.keep H₄ H₇ (Ext.ke (ext_upd_fresh (L := none) nI)) x₇.ke (upd_same ..) hI st
  refine codeAny_mono (hstart _ R₃ R₇ _ _ _ o F (relabel_scope he hsk) I₇ x₇.ke hI hD st₇) fun r s' hr => ?_
  obtain ⟨_, R₈, I₈, x₈, hD₈⟩ := hr
  have x₃₈ : Ext none R₃ R₈ := h₃.after I₃.hs x₈
  obtain ⟨m, hm⟩ := I₈.fm.ns
  obtain ⟨R₉, I₉, x₉, z₉⟩ := unlock _ _ _ _ (⟨I₈.hs, I₃.fm.ext x₃₈, I₈.rg⟩ : Inv B env own (thaw σ₁.1 scope.names, σe.2) R₈ s') x₃₈
  refine hU _ _ s' ⟨R₂, R₉, m, I₉, x₁.trans x₂, x₉, _, I₂.hs, I₂.fm, (z₃ _).mpr nC, (z₃ _).mpr nD, (z₉ _ nD).trans hD₈, (z₉ _ nC).trans hm, DC, fun q => ?_⟩
  obtain ⟨m', hm'⟩ := I₂.fm.ns
  have := (z₃ _).mpr nC
  rw [← show env.locals = ((s₁.heap.push o).push oD).objs.size from q, hm'] at this
  exact nomatch this
end
end Mini
namespace Mini
section
variable {B : Bs} {A : Around} {C : CallT} {ev : Evs} {sc : Scope} {n : Nat}
theorem putI_sound {Rm : RM} {s : Shared} {D : Addr} {acc : List (Int × V)} {k : Int} {kv₀ v : V} {kv u : Value} (H : HS B Rm s) (hD : Rm D = some (.temp (.dictI acc))) (hk : RepV B.w Rm kv₀ kv) (hk0 : kv₀.int? = some k) (hv : RepV B.w Rm v u) (hl : acc.length ≤ 16000000) :
    T B A (dictSet D kv u) (fun _ s' => SetAt B Rm s D (.dictI (put k v acc)) .none .none s') s := by
  obtain ⟨o, ho, hr, hz⟩ := H.holds D _ hD
  obtain ⟨tk, rfl⟩ := hk.int_inv hk0
  obtain ⟨kvs', h1, h2, h3⟩ := hr.inv
  have hd : s.heap.DictOf (intKind PW B.w) D kvs' := dictOf_iff.mpr ⟨o, ho, h1⟩
  have hlen : kvs'.length = acc.length := by rw [← List.length_map (as := kvs') (f := (·.1)), ← h2, List.length_map]
  refine wpAny_dictSet_pairs (k := k) (knd := intKind PW B.w) (intKind_is PW B.w k tk) hd (fun h' hd' hs => ?_) (by rw [hlen, sizeLine_eq]; exact Nat.le_trans hl (by decide))
  obtain ⟨o', ho', hdo⟩ := dictOf_iff.mp hd'
  obtain ⟨p1, p2⟩ := put_rep k hv (dictOf_nodup hd) h2 h3
  exact ⟨o', h', _, ho', .dictI _ _ _ hdo p1 p2, fun b ob hb e => (hs.2 b hb).trans e, .none⟩
theorem put_length {K : Type} [BEq K] (k : K) (v : V) (acc : List (K × V)) : (put k v acc).length ≤ acc.length + 1 := by
  induction acc with
  | nil => exact Nat.le_refl _
  | cons p r ih =>
    cases h : p.1 == k with
    | true => rw [put_yes h]; exact Nat.le_succ _
    | false => rw [put_no h]; exact Nat.succ_le_succ ih
section
variable {t kx vx iter : Expr} {xs : List V} {R₀ : RM} {I D : Addr} {scope : Scope} {pos : Pos} {env : Env}
inductive DInv (C : CallT) (sc : Scope) (ev : Evs) (t kx vx : Expr) (B : Bs) {A : Around} (env : Env) (F : Feed B A R₀ I xs) (Rb : RM) (D : Addr) (σe : St) (out : List (Int × V)) (k : Nat) (s : Shared) : Prop
  | mk (i : Nat) (σ : St) (acc : List (Int × V)) (hk : i + k = xs.length) (hl : acc.length ≤ i) (h : P.run C (eachD sc ev t kx vx (xs.drop i) σ acc) = some (out, σe)) (a : LoopAt B env F Rb D i (.dictI acc) σ s) : DInv C sc ev t kx vx B env F Rb D σe out k s
theorem put_at {acc : List (Int × V)} {k : Int} {kv y : V} {F : Feed B A R₀ I xs} {Rb : RM} {i : Nat} {σ σ₃ σ₄ : St} {s₃ : Shared} (he : env.scope = sc) {Q : Unit → Shared → Prop} (hl : acc.length ≤ 16000000) (tk : VQ B A sc kx σ kv σ₃) (hk : kv.int? = some k) (tv : VQ B A sc vx σ₃ y σ₄) (a : LoopAt B env F Rb D i (.dictI acc) σ s₃)
    (fin : ∀ s₅ u, LoopAt B env F Rb D i (.dictI (put k y acc)) σ₄ s₅ → Q u s₅) : T B A (eval kx env) (fun kv s₄ => T B A (eval vx env) (fun vv s₅ => T B A (dictSet D kv vv) Q s₅) s₄) s₃ := by
  have hne := a.ne
  obtain ⟨R₃, o₃, I₃, ke₃, hI₃, hD₃, x₃, st₃⟩ := a
  refine Runs.go tk he I₃ fun R₄ a s₄ I₄ x₄ r₄ => Runs.go tv he I₄ fun R₅ b s₅ I₅ x₅ r₅ => ?_
  have hD₅ := x₅.temp (x₄.temp hD₃)
  refine T.mono (putI_sound (A := A) I₅.hs hD₅ (RepV.mono x₅.le r₄) hk r₅ hl) fun u s₆ g => fin s₆ u ?_
  have I₆ := temp_inv I₅ hD₅ g
  have ke₅ := (ke₃.trans x₄.ke).trans x₅.ke
  have ke₆ : Ke R₀ (upd R₅ D (.temp (.dictI (put k y acc)))) := ke₅.trans (ke_upd hD₅ rfl rfl)
  have hI₆ : upd R₅ D (.temp (.dictI (put k y acc))) I = some (.pin o₃) := (upd_ne _ _ hne).trans (x₅.pin (x₄.pin hI₃))
  refine ⟨_, o₃, I₆, ke₆, hI₆, upd_same .., ?_, F.keep I₃.hs I₆.hs ke₃ ke₆ hI₃ hI₆ st₃⟩
  rw [hide_comm D I (upd _ _ _), hide_upd, hide_comm I D]
  exact x₃.trans (((x₄.trans x₅).toS.hide I).hide D)
theorem eachD_sound (S : SoundE B A C ev sc) (S2 : SoundB B A C ev sc) (rm : Room A n) (F : Feed B A R₀ I xs) (he : env.scope = sc) {σ σe : St} {out : List (Int × V)} (h : P.run C (eachD sc ev t kx vx xs σ []) = some (out, σe)) (hf : fits xs.length = true) {Rb : RM} {s : Shared} {o : Obj}
    (Ib : Inv B env false σ Rb s) (ke : Ke R₀ Rb) (hI : Rb I = some (.pin o)) (hD : Rb D = some (.temp (.dictI []))) (st : F.St 0 s.heap) :
    codeAny (model PW B.w) A (.compLoop (.DictComp kx vx [⟨t, iter, [], 0⟩] scope pos) 0 (.ref I) (.ref D) env) (LoopEnd B env σe Rb I D (.dictI out)) s := by
  refine compLoopD_T (DInv C sc ev t kx vx B env F Rb D σe out) ?_ _ ⟨0, σ, [], Nat.zero_add _, Nat.zero_le _, h, Rb, o, Ib, ke, hI, hD, .refl _ _, st⟩
  rintro k s ⟨i, σ, acc, hk, hl, h, a⟩
  cases hd : xs.drop i with
  | nil =>
    rw [hd] at h
    cases h
    exact loop_stop (Nat.le_antisymm (hk ▸ Nat.le_add_right ..) (List.drop_eq_nil_iff.mp hd)) a
  | cons v ys =>
    rw [hd] at h
    obtain ⟨hx, hd⟩ := drop_at hd
    have hlt := (List.getElem?_eq_some_iff.mp hx).1
    cases k with
    | zero => rw [← hk] at hlt; exact absurd hlt (Nat.lt_irrefl _)
    | succ k =>
    refine turn_sound (ifs := []) (D := D) (Rb := Rb) (Z := fun p => p = (out, σe) → Turn B A env t (.ref I) [] _ _ _ s) S2 rm F he hx (fun b σ₂ => ev.v kx σ₂ fun kv σ₃ => P.opt kv.int? fun k => P.gd b (ev.v vx σ₃ fun y σ₄ => eachD sc ev t kx vx ys σ₄ (put k y acc))) (fun b σ₂ tt => S.v kx σ₂ _ fun kv σ₃ tk => .opt fun k' hk' => .gd fun e => S.v vx σ₃ _ fun y σ₄ tv p hp q => ?_) _ h rfl
    refine tt _ _ _ _ _ a fun s₃ a₃ => ?_
    rw [if_pos e]
    exact put_at he (Nat.le_trans hl (Nat.le_trans (Nat.le_of_lt hlt) (fits_size hf))) tk hk' tv a₃ fun s₅ u a₅ => ⟨k, Nat.lt_succ_self _, i + 1, σ₄, put k' y acc, by rw [Nat.succ_add]; exact hk, Nat.le_trans (put_length k' y acc) (Nat.succ_le_succ hl), by rw [hd, hp, q], a₅⟩
end
theorem dictI_new {w : World} {R : RM} (h : Heap) : RepO w R (.dictI []) ({ cls := .type "dict", data := .dict #[] } : Obj) := by
  obtain ⟨o, ho, hdo⟩ := dictOf_iff.mp (Heap.DictOf.new (knd := intKind PW w) h)
  rw [Heap.get?_push_size _ rfl] at ho
  cases ho
  exact .dictI _ _ _ hdo rfl .nil
structure CompRuns (B : Bs) (A : Around) (sc : Scope) (e iter : Expr) (scope : Scope) (newAcc : Sem Value) (σ σ' : St) (c : V) : Prop where
  kind : scope.kind = .function
  loc : ∀ x ∈ scope.names, x.2 = .local → scope.names.lookup x.1 = some .local
  set : isSetE iter = false
  go : ∀ env own Rm s, env.scope = sc → Inv B env own σ Rm s → ∀ U : Value → Addr → Result → Shared → Prop, (∀ D C s', CompDone B env own σ' Rm c D C s' → U (.ref D) C (.ok .next) s') →
    ∃ cl, closureFor scope env = pure cl ∧ T B A (eval iter env) (fun x s₁ => T B A (pyIter x) (fun it s₂ => T B A newAcc (fun acc s₃ => T B A (newFunctionEnv scope env.globals cl [] env.qual none .none (some env)) (fun cenv s₄ =>
      codeAny (model PW B.w) A (.compStart e 0 it acc { cenv with scope := relabel scope env }) (U acc cenv.locals) s₄) s₃) s₂) s₁) s
theorem compOK_of {g : Comprehension} {scope : Scope} (h : compOK g scope = true) : scope.kind = .function ∧ isSetE g.iter = false ∧ g.is_async = 0 := by
  obtain ⟨h, h3⟩ := Bool.and_eq_true_iff.mp h
  obtain ⟨h1, h2⟩ := Bool.and_eq_true_iff.mp h
  exact ⟨of_decide_eq_true h1, not_true h2, beq_iff_eq.mp h3⟩
theorem compL_runs {evIn : Evs} (S : SoundE B A C ev sc) (elt : Expr) (g : Comprehension) (scope : Scope) (Si : SoundE B A C evIn (reScope scope sc)) (S2i : SoundB B A C evIn (reScope scope sc)) (rm : Room A n) (pos : Pos) (σ : St) :
    Steps C (fun k => compL ev evIn sc (reScope scope sc) elt g scope σ k) (fun vs σ' => g.is_async = 0 ∧ CompRuns B A sc (.ListComp elt [g] scope pos) g.iter scope (newList []) σ σ' (.list vs)) := fun k K =>
  .gd fun hok => S.v g.iter σ _ fun v σ₁ t => .opt fun q ho => .chk fun hf => .opt fun ρc hc => .lst fun p hl => .chk fun hf2 => by
    obtain ⟨hk, hset, has⟩ := compOK_of hok
    refine K _ _ ⟨has, hk, fun x hx hl => ((captured_spec ρc hc).kinds x.1 x.2 hx).loc hl, hset, fun env own Rm s he I₀ U hU => ?_⟩
    obtain ⟨t', it, ifs, as⟩ := g
    cases (show as = 0 from has)
    exact compCore (e := .ListComp elt [⟨t', it, ifs, 0⟩] scope pos) (c₀ := .list []) rm ho hf hc hk (fun s Q hQ => wpAny_newObj_type (hQ _ rfl fun R => .list [] [] _ .nil)) (fun cenv R₃ R₆ s₄ I D o F hcs I₆ ke hI hD st =>
      have lp := eachL_sound (iter := it) (scope := scope) (pos := pos) Si S2i rm F hcs hl hf2 I₆ ke hI hD st
      codeAny_compStart_list lp (F.W.self 0 _ _ _ st lp)) he I₀ (t env own Rm s he I₀) hU
theorem compD_runs {evIn : Evs} (S : SoundE B A C ev sc) (kx vx : Expr) (g : Comprehension) (scope : Scope) (Si : SoundE B A C evIn (reScope scope sc)) (S2i : SoundB B A C evIn (reScope scope sc)) (rm : Room A n) (pos : Pos) (σ : St) (hifs : g.ifs = []) :
    Steps C (fun k => compD ev evIn sc (reScope scope sc) kx vx g scope σ k) (fun vs σ' => g.is_async = 0 ∧ CompRuns B A sc (.DictComp kx vx [g] scope pos) g.iter scope newDict σ σ' (.dictI vs)) := fun k K =>
  .gd fun hok => S.v g.iter σ _ fun v σ₁ t => .opt fun q ho => .gd fun hf => .opt fun ρc hc => .bind fun p hl => by
    obtain ⟨hk, hset, has⟩ := compOK_of hok
    refine K _ _ ⟨has, hk, fun x hx hl => ((captured_spec ρc hc).kinds x.1 x.2 hx).loc hl, hset, fun env own Rm s he I₀ U hU => ?_⟩
    obtain ⟨t', it, ifs, as⟩ := g
    cases (show as = 0 from has)
    cases (show ifs = [] from hifs)
    exact compCore (e := .DictComp kx vx [⟨t', it, [], 0⟩] scope pos) (c₀ := .dictI []) rm ho hf hc hk (fun s Q hQ => wpAny_newObj_type (hQ _ rfl fun R => dictI_new s.heap)) (fun cenv R₃ R₆ s₄ I D o F hcs I₆ ke hI hD st =>
      have lp := eachD_sound (iter := it) (scope := scope) (pos := pos) Si S2i rm F hcs hl hf I₆ ke hI hD st
      codeAny_compStart_dict lp (F.W.self 0 _ _ _ st lp)) he I₀ (t env own Rm s he I₀) hU
end
end Mini
namespace Mini
section
variable {B : Bs} {A : Around} {C : CallT} {ev : Evs} {sc : Scope} {n : Nat}
theorem folded_of {e : Expr} (h : isSetE e = false) (env : Env) (x : Value) : foldedSetIterable e env x = pure x := by
  cases e with
  | Set => exact ft h.symm
  | _ => rfl
theorem CompDone.ext {env : Env} {own : Bool} {σ' : St} {Rm : RM} {c : V} {D C : Addr} {s' : Shared} (d : CompDone B env own σ' Rm c D C s') : ∃ m, s'.heap.Ns C m ∧ ∀ h', Heap.SameBut C s'.heap h' → Post B env own σ' (some env.locals) Rm (PRes B.w (.own c)) (.ref D) { s' with heap := h' } := by
  obtain ⟨R₂, R₈, m, I, x₁, x₂, s₀, H₀, F₂, nC, nD, hD, hC, hDC, hL⟩ := d
  refine ⟨m, I.hs.holds _ _ hC, fun h' hs => ?_⟩
  have x₃ := drop_ext (h := s'.heap) x₂ nC H₀ hC
  have nD' : Rm D = none := by
    cases e : Rm D with
    | none => rfl
    | some sp => obtain ⟨q, hq⟩ := x₁.dom D sp e; rw [nD] at hq; exact ns hq
  exact ⟨_, ⟨drop_HS I.hs hC hs, F₂.ext x₃, drop_regs I.rg hC⟩, x₁.trans x₃.weaken, D, rfl, drop_keep hC hD (fun e => nomatch e), nD'⟩
theorem compE_sound {e : Expr} {g : Comprehension} {scope : Scope} {pos : Pos} {newAcc : Sem Value} {σ σ' : St} {c : V} (hcl : clausesOf e = [g]) (he : ∀ env, eval e env = comprehension e scope env pos newAcc false (eval g.iter env)) (C : CompRuns B A sc e g.iter scope newAcc σ σ' c) :
    EQ B A sc e σ (.own c) σ' := fun env own Rm s hs I => by
  rw [he]
  obtain ⟨cl, h1, h2⟩ := C.go env own Rm s hs I (compPost (model PW B.w) A (fun _ _ => False) none (Post B env own σ' (some env.locals) Rm (PRes B.w (.own c)))) fun D C s' d => d.ext
  exact wpAny_comprehension_free hcl (folded_of C.set env) h1 C.kind C.loc h2
theorem list_shape {g : Comprehension} {elt : Expr} {scope : Scope} {pos : Pos} (h : g.is_async = 0) (env : Env) : eval (.ListComp elt [g] scope pos) env = comprehension (.ListComp elt [g] scope pos) scope env g.iter.pos (newList []) false (eval g.iter env) := by
  obtain ⟨t, i, f, a⟩ := g
  cases h
  rfl
theorem dict_shape {g : Comprehension} {kx vx : Expr} {scope : Scope} {pos : Pos} (h : g.is_async = 0) (env : Env) : eval (.DictComp kx vx [g] scope pos) env = comprehension (.DictComp kx vx [g] scope pos) scope env g.iter.pos newDict false (eval g.iter env) := by
  obtain ⟨t, i, f, a⟩ := g
  cases h
  rfl
theorem callE_sound (S : SoundE B A C ev sc) (hC : SoundC B A C) (F : Facts B) (hM : kMeth B.K = true) (rm : Room A n) (f : Expr) (args : List Expr) (pos : Pos) (σ : St) : Steps C (fun k => callE ev sc f args pos σ k) (EQ B A sc (.Call f args [] pos) σ) := fun k K => by
  have i := ev_is f
  show Go C _ (match evOf f with | .attr o m apos => _ | .name n _ => _ | _ => _)
  cases hq : evOf f with
  | attr o m apos =>
    rw [hq] at i
    rw [show f = .Attribute o m apos from i] at K
    exact .gd fun h1 => .gd fun h2 => methM_sound S hC F hM rm o m apos pos args σ h1 h2 k K
  | name x p =>
    rw [hq] at i
    rw [show f = .Name x p from i] at K
    exact callName_sound S hC F rm x p args pos σ k K
  | _ => exact .fail
theorem stepE_sound {prev : Scope → Evs} (S : ∀ sc, SoundE B A C (prev sc) sc) (S2 : ∀ sc, SoundB B A C (prev sc) sc) (hC : SoundC B A C) (F : Facts B) (hM : kMeth B.K = true) (rm : Room A n) (x : Expr) (σ : St) : Steps C (fun k => stepE prev sc x σ k) (EQ B A sc x σ) := fun k K => by
  cases x with
  | Constant c kk pos => exact .opt fun v hv => K _ _ (const_sound hv)
  | Name x p => exact nameE_sound F.gl k K
  | Attribute o a pos => exact attrE_sound (S sc) F o a pos σ k K
  | Subscript o i pos => exact subE_sound (S sc) o i pos σ k K
  | Call f args kws pos => exact .gd fun h => by cases List.isEmpty_iff.mp h; exact callE_sound (S sc) hC F hM rm f args pos σ k K
  | BinOp l op r pos => exact bin_sound (S sc) l r op pos σ k K
  | UnaryOp op e pos => exact unop_sound (S sc) op e pos σ k K
  | BoolOp op vs pos => exact .opt fun p hp => by cases headTail_inv hp; exact boolV_sound (S sc) p.2 p.1 σ _ fun v σ' t => K _ _ t
  | Compare l ops cs pos => exact cmpE_sound (S sc) rm l ops cs pos σ _ fun b σ' t => K _ _ fun env own Rm s he I => Runs.go t.val he I fun R' u s' i x e => ⟨R', i, x, by rw [e]; exact .bool b⟩
  | IfExp t a b pos => exact ifExp_sound (S sc) (S2 sc) t a b pos σ k K
  | List es pos => exact list_sound (S sc) es pos σ k K
  | Tuple es kk pos => exact tuple_sound (S sc) es kk pos σ k K
  | Dict ks vs pos => exact dict_sound (S sc) ks vs pos σ k K
  | ListComp elt gs scope pos => exact .opt fun g hg => by cases one_inv hg; exact compL_runs (S sc) elt g scope (S _) (S2 _) rm pos σ _ fun vs σ' t => K _ _ (compE_sound rfl (list_shape t.1) t.2)
  | DictComp kx vx gs scope pos => exact .opt fun g hg => .gd fun h => by cases one_inv hg; exact compD_runs (S sc) kx vx g scope (S _) (S2 _) rm pos σ (List.isEmpty_iff.mp h) _ fun vs σ' t => K _ _ (compE_sound rfl (dict_shape t.1) t.2)
  | _ => exact .fail
theorem evs_sound (hC : SoundC B A C) (F : Facts B) (hM : kMeth B.K = true) (rm : Room A n) : ∀ d sc, SoundE B A C (evs d sc) sc ∧ SoundB B A C (evs d sc) sc
  | 0, sc => ⟨fun _ _ _ _ _ _ => .fail, fun _ _ _ _ _ _ => .fail⟩
  | d + 1, sc => ⟨fun x σ => stepE_sound (fun sc => (evs_sound hC F hM rm d sc).1) (fun sc => (evs_sound hC F hM rm d sc).2) hC F hM rm x σ, fun x σ => stepB_sound (prev := evs d) ((evs_sound hC F hM rm d sc).1) ((evs_sound hC F hM rm d sc).2) rm x σ⟩
end
end Mini
namespace Mini
noncomputable def kSet (K : Frag) : Bool := fieldTab.all fun (C, fs) => findIn K (.ref C) "__setattr__" == some (some (.builtin "object.__setattr__")) && plainOver K C && (clsIn K C).any (·.hasDict) && fs.all fun a => takerIn K C a == some none
section
variable {B : Bs} {A : Around} {R : RM} {s : Shared}
theorem find_none_of {es : List DictEntry} {ep : Nat} {kvs' : List (Str × Value)} (h : DictObj (strKind PW B.w) (dictOf es ep) kvs') {name : Str} (hn : valueAt kvs' name = none) : es.any (·.key.isStr name) = false := by
  have hf := dictObj_find h name
  rw [hn, Option.map_eq_none_iff, List.find?_eq_none] at hf
  exact List.any_eq_false.mpr hf
theorem set_ok {K : Frag} {C : Addr} {name : Str} (hk : kSet K = true) (hf : isField C name = true) : findIn K (.ref C) "__setattr__" = some (some (.builtin "object.__setattr__")) ∧ plainOver K C = true ∧ (clsIn K C).any (·.hasDict) = true ∧ takerIn K C name = some none := by
  unfold isField at hf
  cases hC : fieldTab.lookup C with
  | none => rw [hC] at hf; exact ft hf
  | some l =>
    rw [hC] at hf
    obtain ⟨q, q4⟩ := Bool.and_eq_true_iff.mp (all_of hk (lookup_mem hC))
    obtain ⟨q, q3⟩ := Bool.and_eq_true_iff.mp q
    obtain ⟨q1, q2⟩ := Bool.and_eq_true_iff.mp q
    exact ⟨beq_iff_eq.mp q1, q2, q3, beq_iff_eq.mp (all_of q4 (List.contains_iff_mem.mp hf))⟩
theorem dictObj_more {es : List DictEntry} {ep ep' : Nat} {kvs' : List (Str × Value)} {name : Str} {tk : Tok} {u : Value} (h : DictObj (strKind PW B.w) (dictOf es ep) kvs') (hva : valueAt kvs' name = none) :
    DictObj (strKind PW B.w) (dictOf (es ++ [⟨PyData.keyHash B.w.params name, .str name tk, u⟩]) ep') (kvs' ++ [(name, u)]) := by
  obtain ⟨es', _, _, hdt, e5, e6, e7⟩ := h
  injection hdt with hdt
  rw [← hdt] at e5 e6
  refine ⟨_, _, ⟨rfl, rfl, rfl⟩, rfl, fun e he => ?_, e6.append (strKind_is PW B.w name _) _ _, ?_⟩
  · rcases List.mem_append.mp (List.mem_toArray.mp he) with he | he
    · exact e5 e (List.mem_toArray.mpr he)
    · rw [List.mem_singleton.mp he]; exact ⟨name, strKind_is PW B.w name _, rfl⟩
  · rw [List.map_append, List.nodup_append]
    refine ⟨e7, List.nodup_cons.mpr ⟨List.not_mem_nil, List.nodup_nil⟩, fun a ha b hb q => ?_⟩
    obtain ⟨kv, hkv, hk'⟩ := List.mem_map.mp ha
    unfold valueAt at hva
    rw [Option.map_eq_none_iff, List.find?_eq_none] at hva
    exact hva kv hkv (decide_eq_true (hk'.trans (q.trans (List.mem_singleton.mp hb))))
theorem putL_new {name : Str} {hs : Int} {key v : Value} {es : List DictEntry} (h : es.any (·.key.isStr name) = false) : putL name hs key v es = es ++ [⟨hs, key, v⟩] := by
  induction es with
  | nil => rfl
  | cons e r ih =>
    rw [List.any_cons, Bool.or_eq_false_iff] at h
    unfold putL
    rw [if_neg (by rw [h.1]; exact Bool.false_ne_true), ih h.2]
    rfl
theorem set_self (H : HS B R s) (hk : kSet B.K = true) {C a d L : Addr} {x name : Str} {fs : List (Str × V)} {v : V} {u : Value} (ha : R a = some (.frozen (instObj C d))) (hd : R d = some (.var L x (.dictS fs)))
    (hf : isField C name = true) (hl : look name fs = none) (hn : fs.length ≤ 900) (hv : RepV B.w R v u) :
    T B A (setAttr (.ref a) name u) (fun _ s' => SetAt B R s d (.dictS (fs ++ [(name, v)])) .none .none s') s := by
  obtain ⟨q1, q2, q3, q4⟩ := set_ok hk hf
  obtain ⟨o, ho, hro, hz⟩ := H.holds d _ hd
  obtain ⟨kvs', h1, h2, h3⟩ := hro.inv
  obtain ⟨es, ep, rfl⟩ := h1.form
  have I : InstAt s.heap a (instObj C d) C (some (dictOf es ep)) := ⟨H.frozen ha, rfl, rfl, ho⟩
  have hva : valueAt kvs' name = none := by
    have := look_rep name h2 h3
    rw [hl] at this; exact this
  have hlen : es.length = fs.length := by
    obtain ⟨es', _, _, hdt, _, e6, _⟩ := id h1
    injection hdt with hdt
    rw [← hdt] at e6
    rw [← List.length_map (as := fs) (f := (·.1)), h2, List.length_map]
    exact e6.length
  refine set_plain H.K I q1 (osa_open (s := { s with toks := s.toks + 1 }) (r := none) H.K I q2 q4 fun b => ?_)
  obtain ⟨cd, hc, hd'⟩ := any_some q3
  have hx : s.heap.get? a = some (instObj C d) := H.frozen ha
  refine wpAny_bind (wpAny_pure (wpAny_bind (wpAny_bind (wpAny_loadPart hx (wpAny_bind (Looks.here (s := { s with toks := s.toks + 1 }) (looks_clsIn H.K hc) ?_))))))
  rw [hd']
  refine wpAny_pure (a := some d) (wpAny_bind (wpAny_pure (wpAny_bind ?_)))
  unfold nsSet
  refine wpAny_bind (wpAny_bind (wpAny_askSetting (wpAny_pure (wpAny_bind (wpAny_mkText (wpAny_bind (wpAny_loadPart ho ?_)))))))
  dsimp only
  have c : aRefKeyMayBeTheName name es.toArray = false := by
    rw [aRefKeyMayBeTheName_at, ← Array.any_toList, ← Array.any_toList]
    show (!es.any _ && es.any _) = false
    rw [no_refs h1, Bool.and_false]
  rw [c]
  refine wpAny_updatePart ho ?_
  have hput : Obj.putName name (PyData.keyHash B.w.params name) (.str name (s.toks + 1)) u (dictOf es ep) = dictOf (es ++ [⟨PyData.keyHash B.w.params name, .str name (s.toks + 1), u⟩]) (putN name es ep) := by rw [putName_dict, putL_new (find_none_of h1 hva)]
  have D' := Heap.get?_update_self (fun o => Obj.putName name (PyData.keyHash B.w.params name) (.str name (s.toks + 1)) u o) ho (by rw [hput]; rfl)
  refine wpAny_bind (wpAny_lookBehind (o := _) D' ?_ (wpAny_pure ⟨_, _, _, D', ?_, fun b o hb e => (Heap.get?_update_other _ _ (Ne.symm hb)).trans e, .none⟩))
  · rw [hput]; exact pastItsLine_dict (by rw [List.size_toArray, sizeLine_eq, List.length_append, hlen]; exact Nat.le_trans (Nat.add_le_add_right hn 1) (by decide))
  · rw [hput]
    refine .dictS _ _ _ (dictObj_more h1 hva) (by rw [List.map_append, List.map_append, h2]; rfl) ?_
    rw [List.map_append, List.map_append]
    exact h3.append (.cons _ _ _ _ hv .nil)
end
end Mini
namespace Mini
theorem ResOK.backS {w : World} {Rm R R' : RM} {sl : Slot} {u : Value} {L : Addr} (h : ResOK w R R' sl u) (x : ExtS L Rm R) : ResOK w Rm R' sl u := by
  cases sl with
  | val v => exact h
  | own v =>
    obtain ⟨a, e, p, q⟩ := h
    refine ⟨a, e, p, ?_⟩
    cases hr : Rm a with
    | none => rfl
    | some sp => obtain ⟨sp', h'⟩ := x.dom a sp hr; rw [q] at h'; exact ns h'
  | _ => exact h
section
variable {B : Bs} {A : Around} {C : CallT} {ev : Evs} {sc : Scope} {n : Nat} {env : Env} {σ : St} {Rm : RM} {s : Shared}
theorem ResOK.keep {w : World} {Rm R₁ R₂ : RM} {sl₂ : Slot} {u₂ : Value} (le : Le R₁ R₂) (k : ∀ a v, u₂ = .ref a → R₁ a = some (.temp v) → ownAt sl₂ u₂ a → R₂ a = some (.temp v)) (q : ResOK w Rm R₁ sl₂ u₂) : ResOK w Rm R₂ sl₂ u₂ := by
  cases sl₂ with
  | val v => exact RepV.mono le q
  | own v => obtain ⟨a, rfl, p, q⟩ := q; exact ⟨a, rfl, k a v rfl p rfl, q⟩
  | _ => exact q
theorem to_reg {own : Bool} {a : Addr} {v : V} {r : Nat} (I : Inv B env own σ Rm s) (ha : Rm a = some (.temp v)) (hm : muGet σ.2 r = none) (hr : r < 5) :
    Inv B env own (σ.1, muSet σ.2 r v) (upd Rm a (.reg r v)) s ∧ Le Rm (upd Rm a (.reg r v)) := by
  obtain ⟨o, ho', hro, hz⟩ := I.hs.holds a _ ha
  have le : Le Rm (upd Rm a (.reg r v)) := le_upd ha rfl fun _ e => ns e
  have C := I.hs.change (sp' := .reg r v) (tk := s.toks) ha rfl (fun _ _ _ e => e) ⟨o, ho', hro.mono le, hz⟩ (fun e => nomatch e) (fun _ e => ns e) (fun _ e => ns e) (fun q e => .inr fun b => Option.some.inj e ▸ I.rg.gone r hm b)
  exact ⟨⟨C.1, I.fm.le le fun b q e hq => upd_keep ha e (inFrame_tag hq), I.rg.put ha (fun _ e => ns e) (by rw [I.rg.len]; exact hr) (.inl rfl)⟩, le⟩
theorem wpAny_rel {M : Model} {E : Value → Shared → Prop} {vs keep : List Value} {Q : Unit → Shared → Prop} (h : Q () s) : wpAny M A (release vs keep) Q E s := wpAny_release h
inductive SelfSet (B : Bs) (env : Env) (σ : St) (Rm : RM) (x : Str) (K : Addr) (fs fs' : List (Str × V)) (s' : Shared) : Prop
  | mk (d : Addr) (h : Rm d = some (.var env.locals x (.dictS fs))) (le : Le Rm (upd Rm d (.var env.locals x (.dictS fs')))) (i : Inv B env true (setv σ.1 x (.self K fs'), σ.2) (upd Rm d (.var env.locals x (.dictS fs'))) s') : SelfSet B env σ Rm x K fs fs' s'
theorem attr_store (hS : kSet B.K = true) (I : Inv B env true σ Rm s) {x a : Str} {p pos : Pos} {K : Addr} {fs : List (Str × V)} {v : V} {u : Value} (hd : (x == so "__debug__") = false) (hx : σ.1.lookup x = some (.self K fs))
    (hf : isField K a = true) (hl : look a fs = none) (hn : fs.length ≤ 900) (hv : RepV B.w Rm v u) :
    T B A (assign (.Attribute (.Name x p) a pos) env u) (fun _ => SelfSet B env σ Rm x K fs (fs ++ [(a, v)])) s := by
  rw [assign_Attribute]
  obtain ⟨ov, hva, q, d, rfl, h1, h2, h3⟩ := I.fm.vars _ _ hx
  refine wpAny_bind (wpAny_holding (load_var I hva hd (wpAny_bind (wpAny_standAt (wpAny_bind (wpAny_holding ((set_self I.hs hS h1 h2 hf hl hn hv).mono fun _ s' g => wpAny_rel ?_)))))))
  obtain ⟨o', h', tk, ho', hr', hs, _⟩ := g
  obtain ⟨_, _, _, hz⟩ := I.hs.holds d _ h2
  have le : Le Rm (upd Rm d (.var env.locals x (.dictS (fs ++ [(a, v)])))) := le_upd h2 rfl fun _ e => ns e
  have C := I.hs.swap (sp' := .var env.locals x (.dictS (fs ++ [(a, v)]))) (tk := tk) h2 rfl rfl hs ⟨o', ho', hr'.mono le, hz⟩ (.inr ⟨_, rfl, rfl, ns_ne I.hs h2⟩) rfl rfl
  exact ⟨d, h2, le, C.1, I.fm.own_upd h2 le (fun ov pv _ => ⟨q, d, (pv.back rfl rfl).det hva, upd_keep h2 h1 rfl, upd_same .., h3⟩) hx, I.rg.ext_same (upd_reg_iff h2 rfl rfl)⟩
theorem RepL.set {w : World} {R : RM} {v : V} {u : Value} (hv : RepV w R v u) {xs : List V} : ∀ {us : List Value} (i : Nat), RepL w R xs us → RepL w R (setNth xs i v) (us.set i u) := by
  induction xs with
  | nil => intro us i h; rw [h.nil_inv]; exact .nil
  | cons x r ih =>
    intro us i h
    obtain ⟨y, us, rfl, h1, h2⟩ := h.inv
    cases i with
    | zero => exact .cons _ _ _ _ hv h2
    | succ i => exact .cons _ _ _ _ h1 (ih i h2)
theorem setItem_L {l : Addr} {items : List Value} {ep : Nat} {k : Int} {t : Tok} {v : Value} {Q : Unit → Shared → Prop} (hl : IsL s.heap l items.toArray ep)
    (h0 : 0 ≤ k) (hfit : k < 2 ^ 63) (hn : k < items.length)
    (hQ : ∀ ep' h', IsL h' l (items.set k.toNat v).toArray ep' → Heap.SameBut l s.heap h' → Q () { s with heap := h' }) :
    T B A (setItem (.ref l) (.int k t) v) Q s := by
  have hI : s.heap.IsList l items.toArray := hl.isList
  have ho : s.heap.get? l = some _ := hl
  have hd : (⟨.type "list", none, .seq items.toArray ep, #[]⟩ : Obj).data = .seq items.toArray ep := rfl
  unfold setItem
  try with_reducible refine wpAny_holding ?_
  first | refine wpAny_bind (wpAny_pure ?_) | skip
  refine wpAny_bind (wpAny_sequenceKey hI.typeIs (by decide) ?_)
  refine wpAny_bind (wpAny_callSpecial?_slot (name := Str.ofString "__setitem__") hI.typeIs slot_list_setitem
    (wpAny_call_entry slot_list_setitem hI.typeIs entry_list_setitem ?_ (args_list_setitem _ _ _)))
  show wpAny _ _ (Builtin.List.listSubscript? (.int k t) >>= _) _ _ s
  refine wpAny_bind (wpAny_listSubscript_int (fitsIndex_of h0 hfit) ?_)
  obtain ⟨j, rfl⟩ := Int.eq_ofNat_of_zero_le h0
  have hj : j < items.toArray.size := by simp; omega
  have hx' : items.toArray[j]? = some items.toArray[j] := Array.getElem?_eq_getElem hj
  show wpAny _ _ ((seqItemAt l j >>= fun r => pure (r.map (j, ·))) >>= _) _ _ s
  refine wpAny_bind (wpAny_bind (wpAny_seqItemAt ho hd (wpAny_pure ?_)))
  rw [hx']
  show wpAny _ _ (setSeqItemAt l j v >>= _) _ _ s
  have hfin : IsL (s.heap.update l (Obj.mapSeq (·.setIfInBounds j v))) l (items.set j v).toArray (if (items.toArray.setIfInBounds j v).size == items.toArray.size then ep else ep + 1) := by
    have := hl.update (fun x => x.setIfInBounds j v)
    have e : (items.toArray.setIfInBounds j v) = (items.set j v).toArray := by simp
    rw [← e]
    exact this
  refine wpAny_bind (wpAny_setSeqItemAt ho hd ?_)
  first
    | exact wpAny_bind (wpAny_pure (wpAny_pure ⟨.none, rfl, wpAny_pure (hQ _ _ hfin (Heap.SameBut.update ..))⟩))
    | exact wpAny_pure ⟨.none, rfl, wpAny_pure (hQ _ _ hfin (Heap.SameBut.update ..))⟩
theorem put_key {K : Type} [DecidableEq K] {knd : KeyKind PW B.w K} {x : K} {xs : List (K × V)} {kvs' : List (K × Value)} {v : V} {ku u : Value} {a : Addr} {f : List (K × V) → V} (hf : fits xs.length = true) (hk : knd.is x ku = true) (hv : RepV B.w Rm v u) (hd : s.heap.DictOf knd a kvs') (h2 : xs.map (·.1) = kvs'.map (·.1)) (h3 : RepL B.w Rm (xs.map (·.2)) (kvs'.map (·.2)))
    (mk : ∀ xs o kvs', DictObj knd o kvs' → xs.map (·.1) = kvs'.map (·.1) → RepL B.w Rm (xs.map (·.2)) (kvs'.map (·.2)) → RepO B.w Rm (f xs) o) : T B A (setItem (.ref a) ku u) (fun _ s' => SetAt B Rm s a (f (put x v xs)) .none .none s') s := by
  refine wpAny_setItem_pairs (k := x) (knd := knd) hk hd (fun h' hd' hs => ?_) (by rw [← List.length_map (as := kvs') (f := (·.1)), ← h2, List.length_map]; exact fits_line hf)
  obtain ⟨o', ho', hdo⟩ := dictOf_iff.mp hd'
  obtain ⟨p1, p2⟩ := put_rep x hv (dictOf_nodup hd) h2 h3
  exact ⟨o', h', _, ho', mk _ _ _ hdo p1 p2, fun b ob hb e => (hs.2 b hb).trans e, .none⟩
theorem put_sound (H : HS B Rm s) {c k v : V} {a : Addr} {o : Obj} {ku u : Value} (ho : s.heap.get? a = some o) (r : RepO B.w Rm c o) (hk : RepV B.w Rm k ku) (hv : RepV B.w Rm v u) :
    Gv (fun c' => T B A (setItem (.ref a) ku u) (fun _ s' => SetAt B Rm s a c' .none .none s') s) (putItem c k v) := by
  cases c with
  | list xs =>
    refine .bind fun i hi => .gdo fun h0 => .gdo fun h2 => .gdo fun h1 => .some ?_
    have h0 := of_decide_eq_true h0
    have h2 := fits_size h2
    have h1 : i.toNat < xs.length := Nat.le_of_ble_eq_true h1
    obtain ⟨t, rfl⟩ := hk.int_inv hi
    obtain ⟨items, ep, rfl, hr⟩ := r.inv
    have hl : IsL s.heap a items.toArray ep := ho
    have hlen := hr.length
    exact setItem_L hl h0 (by omega) (by omega) fun ep' h' hl' hs => ⟨_, h', s.toks, hl', .list _ _ _ (hr.set hv _), fun b o hb e => (hs.2 b hb).trans e, .none⟩
  | dictS xs =>
    obtain ⟨kvs', h1, h2, h3⟩ := r.inv
    cases k with
    | str x =>
      refine .gdo fun hf => .some ?_
      obtain ⟨t, rfl⟩ := hk.str_inv rfl
      exact put_key (f := .dictS) hf (strKind_is PW B.w x t) hv (dictOf_iff.mpr ⟨o, ho, h1⟩) h2 h3 .dictS
    | int x =>
      refine .gdo fun h0 => .some ?_
      obtain ⟨t, rfl⟩ := hk.int_inv rfl
      rw [List.isEmpty_iff.mp h0] at h2
      rw [List.map_eq_nil_iff.mp h2.symm] at h1
      exact put_key (xs := []) (kvs' := []) (f := .dictI) rfl (intKind_is PW B.w x t) hv (dictOf_iff.mpr ⟨o, ho, empty_dict h1⟩) rfl .nil .dictI
    | _ => exact .none
  | dictI xs =>
    obtain ⟨kvs', h1, h2, h3⟩ := r.inv
    refine .bind fun x hx => .gdo fun hf => .some ?_
    obtain ⟨t, rfl⟩ := hk.int_inv hx
    exact put_key (f := .dictI) hf (intKind_is PW B.w x t) hv (dictOf_iff.mpr ⟨o, ho, h1⟩) h2 h3 .dictI
  | _ => exact .none
end
end Mini
namespace Mini
noncomputable def Steps1 (C : CallT) (step : {R : Type} → (St → P.Ans R) → P.Ans R) (Q : St → Prop) : Prop :=
  ∀ {R : Type} {Z : R → Prop} (k : St → P.Ans R), (∀ σ', Q σ' → Go C Z (k σ')) → Go C Z (step k)
section
variable {B : Bs} {A : Around} {C : CallT} {ev : Evs} {sc : Scope} {n : Nat}
structure AsgQ (B : Bs) (A : Around) (sc : Scope) (t : Expr) (sl : Slot) (σ σ' : St) : Prop where
  plain : ∀ ts env, assignEach (t :: ts) env = (false, assign t env) :: assignEach ts env
  go : ∀ env Rm R s u, env.scope = sc → Inv B env true σ R s → ExtS env.locals Rm R → ResOK B.w Rm R sl u → T B A (assign t env u) (fun _ => Bound B env true σ' Rm R sl u) s
inductive FPend (B : Bs) (env : Env) (own : Bool) (σ : St) (Rm R' : RM) (sl : Slot) (u : Value) (v : V) (s : Shared) : Prop
  | mk (R₂ : RM) (i : Inv B env own σ R₂ s) (x : ExtS env.locals Rm R₂) (r : RepV B.w R₂ v u) (k : ∀ sl₂ u₂, ResOK B.w Rm R' sl₂ u₂ → (∀ a, ownAt sl u a → ¬ ownAt sl₂ u₂ a) → ResOK B.w Rm R₂ sl₂ u₂) : FPend B env own σ Rm R' sl u v s
theorem freeze_pend {env : Env} {own : Bool} {σ : St} {Rm R' : RM} {s : Shared} {sl : Slot} {u : Value} {v : V} (I : Inv B env own σ R' s) (hr : ResOK B.w Rm R' sl u) (hv : sl.v? = some v) (x : ExtS env.locals Rm R') : FPend B env own σ Rm R' sl u v s := by
  cases sl with
  | val v' => cases hv; exact ⟨R', I, x, hr, fun _ _ h _ => h⟩
  | own v' =>
    cases hv
    obtain ⟨a, rfl, ha, hn⟩ := hr
    obtain ⟨o, ho, hv', H, le, hv2, hz⟩ := I.hs.freeze ha rfl
    exact ⟨_, ⟨H, I.fm.le le fun b q e hq => upd_keep ha e (inFrame_tag hq), I.rg.ext_same (upd_reg_iff ha rfl rfl)⟩, x.ne hn, .obj _ _ o hz (upd_same ..) hv2, fun sl₂ u₂ q d => q.upd le (d a rfl)⟩
  | _ => exact ns hv
theorem assignGen_sound (S : SoundE B A C ev sc) (sl : Slot) (o i : Expr) (pos : Pos) (σ : St) : Steps1 C (fun k => assignGen ev sl o i σ k) (AsgQ B A sc (.Subscript o i pos) sl σ) := fun k K =>
  .opt fun v hv => S.v o σ _ fun ov σ₁ t1 => .opt fun r hr => S.v i σ₁ _ fun kv σ₂ t2 => .opt fun c hc => .put fun c' hp => K _ ⟨fun _ _ => rfl, fun env Rm R₀ s u he I x₀ hu => by
    obtain ⟨R₁, I₁, x₁, r₁, d₁⟩ := freeze_pend I hu hv x₀
    rw [assign_Subscript]
    refine wpAny_bind (wpAny_holding (Runs.go t1 he I₁ fun R₂ ou s₂ I₂ x₂ r₂ => wpAny_bind (wpAny_holding (Runs.go t2 he I₂ fun R₃ ku s₃ I₃ x₃ r₃ => ?_))))
    cases V.reg_eq hr
    obtain ⟨a, rfl, ha, hm⟩ := regVal_at I₃ (RepV.mono x₃.le r₂) hc
    obtain ⟨ob, hob, hro, _⟩ := I₃.hs.holds a _ ha
    refine wpAny_bind (wpAny_standAt (wpAny_bind (wpAny_holding ((put_sound I₃.hs hob hro r₃ ((r₁.mono x₂.le).mono x₃.le) c' hp).mono fun _ s₄ g => wpAny_rel ?_))))
    obtain ⟨R₄, I₄, x₄, _⟩ := reg_set I₃ ha hm g
    exact ⟨R₄, I₄, ((x₁.trans x₂.toS).trans x₃.toS).trans x₄.toS, fun sl₂ u₂ q d => (((d₁ sl₂ u₂ q d).ext x₂).ext x₃).ext x₄⟩⟩
theorem assignOwn_sound (S : SoundE B A C ev sc) (sl : Slot) (o i : Expr) (pos : Pos) {x : Str} {c₀ : V} (σ : St) (hn : OwnAt sc σ o x c₀) : Steps1 C (fun k => assignOwn ev sl x i σ k) (AsgQ B A sc (.Subscript o i pos) sl σ) := fun k K =>
  .opt fun v hv => S.v i σ _ fun kv σ₁ t1 => .opt fun c hc => .put fun c' hp => K _ ⟨fun _ _ => rfl, fun env Rm R₀ s u he I x₀ hu => by
    obtain ⟨⟨p, rfl⟩, hd, hk, hx⟩ := hn
    obtain ⟨R₁, I₁, x₁, r₁, d₁⟩ := freeze_pend I hu hv x₀
    rw [assign_Subscript]
    obtain ⟨ov, hva, a, rfl, ha⟩ := I₁.fm.vars _ _ hx
    refine wpAny_bind (wpAny_holding (load_var I₁ hva hd (wpAny_bind (wpAny_holding (Runs.go t1 he I₁ fun R₂ ku s₂ I₂ x₂ r₂ => ?_)))))
    have hv2 : VarAt R₂ env x (some (.ref a)) := hva.mono (fun m h => x₂.ns h) (fun c L ov h => x₂.cell h)
    obtain ⟨sl', hsl, hc⟩ := bnd hc
    cases Slot.own_eq hc
    obtain ⟨ov', hv', a', e', ha'⟩ := I₂.fm.vars _ _ hsl
    cases e'.symm.trans (hv'.det hv2)
    obtain ⟨ob, hob, hro, _⟩ := I₂.hs.holds _ _ ha'
    refine wpAny_bind (wpAny_standAt (wpAny_bind (wpAny_holding ((put_sound I₂.hs hob hro r₂ (r₁.mono x₂.le) c' hp).mono fun _ s₃ g => wpAny_rel ?_))))
    obtain ⟨R₃, I₃, x₃, _⟩ := own_set I₂ hsl hv2 ha' g
    exact ⟨R₃, I₃, (x₁.trans x₂.toS).trans x₃.toS, fun sl₂ u₂ q d => ((d₁ sl₂ u₂ q d).ext x₂).ext x₃⟩⟩
structure SelfAt (sc : Scope) (σ : St) (o : Expr) (x : Str) (K : Addr) (fs : List (Str × V)) : Prop where
  name : ∃ p, o = .Name x p
  debug : (x == so "__debug__") = false
  slot : σ.1.lookup x = some (.self K fs)
theorem Slot.self_eq {sl : Slot} {c : Addr × List (Str × V)} (h : sl.self? = some c) : sl = .self c.1 c.2 := by
  cases sl with
  | self K fs => cases h; rfl
  | _ => exact ns h
theorem selfName_inv {σ : St} {o : Expr} : Gv (fun p => SelfAt sc σ o p.1 p.2.1 p.2.2) (selfName sc σ o) := .bind fun _ h1 => .gdo fun h2 => .gdo fun h3 => .bind fun _ h4 => .map fun _ h5 => ⟨name_inv h1, not_true h2, by rw [h4, Slot.self_eq h5]⟩
theorem SelfSet.bound {env : Env} {σ σ' : St} {Rm R R₁ : RM} {x : Str} {K : Addr} {fs fs' : List (Str × V)} {sl : Slot} {u : Value} {s' : Shared} (h : SelfSet B env σ R₁ x K fs fs' s') (x₁ : ExtS env.locals Rm R₁) (k : ∀ sl₂ u₂, ResOK B.w Rm R sl₂ u₂ → (∀ a, ownAt sl u a → ¬ ownAt sl₂ u₂ a) → ResOK B.w Rm R₁ sl₂ u₂) (e : σ' = (setv σ.1 x (.self K fs'), σ.2)) : Bound B env true σ' Rm R sl u s' := by
  obtain ⟨d, hd', le, I'⟩ := h
  rw [e]
  exact ⟨_, I', x₁.trans (ext_upd_own hd').toS, fun sl₂ u₂ q dj => (k sl₂ u₂ q dj).keep le fun b w _ hb _ => upd_keep hd' hb rfl⟩
theorem assignField_sound (hS : kSet B.K = true) (sl : Slot) (o : Expr) (a : Str) (pos : Pos) {x : Str} {K₀ : Addr} {fs : List (Str × V)} (σ : St) (hn : SelfAt sc σ o x K₀ fs) : Steps1 C (fun k => assignField sl x a K₀ fs σ k) (AsgQ B A sc (.Attribute o a pos) sl σ) := fun k K =>
  .gd fun hf => .gd fun hl => .gd fun hlen => .opt fun q hq => K _ ⟨fun _ _ => rfl, fun env Rm R s u he I x₀ hr => by
    obtain ⟨⟨p, rfl⟩, hd, hx⟩ := hn
    have hlen := Nat.le_of_ble_eq_true hlen
    cases sl with
    | val v => cases hq; exact (attr_store hS I hd hx hf (none_of hl) hlen hr).mono fun _ s' g => g.bound x₀ (fun _ _ q _ => q) rfl
    | own v =>
      obtain ⟨r, hreg, hq⟩ := bnd hq
      obtain ⟨hm, hq⟩ := gdo_some hq
      cases hq
      obtain ⟨b, rfl, hb, hbn⟩ := hr
      obtain ⟨I₁, le₁⟩ := to_reg I hb (none_of hm) (regOf_lt hreg)
      exact (attr_store hS I₁ hd hx hf (none_of hl) hlen (.reg r b ⟨_, upd_same .., rfl⟩)).mono fun _ s' g => g.bound (x₀.ne hbn) (fun sl₂ u₂ q dj => q.upd le₁ (dj b rfl)) rfl
    | _ => exact ns hq⟩
theorem assignM_sound (S : SoundE B A C ev sc) (hS : kSet B.K = true) (t : Expr) (sl : Slot) (σ : St) : Steps1 C (fun k => assignM ev sc t sl σ k) (AsgQ B A sc t sl σ) := fun k K => by
  have i := ev_is t
  show Go C _ (match evOf t with | .name x _ => _ | .attr o a _ => _ | .sub o i => _ | _ => _)
  cases hq : evOf t with
  | name x p =>
    rw [hq] at i
    rw [show t = .Name x p from i] at K
    exact .opt fun σ' hb => K σ' ⟨fun _ _ => rfl, fun env Rm R s u he I x₀ hr => wpAny_assign_Name (bindM_sound he (.inl rfl) I x₀ hr σ' hb)⟩
  | attr o a pos =>
    rw [hq] at i
    rw [show t = .Attribute o a pos from i] at K
    exact .opt fun p hp => assignField_sound hS sl o a pos σ (selfName_inv p hp) k K
  | sub o j =>
    rw [hq] at i
    obtain ⟨pos, rfl⟩ := i
    exact .els (fun p hp => assignOwn_sound S sl o j pos σ (ownName_inv p hp) k K) fun _ => assignGen_sound S sl o j pos σ k K
  | _ => exact .fail
inductive AllBound (B : Bs) (env : Env) (σ : St) (Rm : RM) (s : Shared) : Prop
  | mk (R' : RM) (i : Inv B env true σ R' s) (x : ExtS env.locals Rm R') : AllBound B env σ Rm s
structure RowQ (B : Bs) (A : Around) (sc : Scope) (ts : List Expr) (sls : List Slot) (σ σ' : St) : Prop where
  len : ∀ env, (assignEach ts env).length = sls.length ∧ (assignEach ts env).findIdx? (·.1) = none
  go : ∀ env Rm R s us, env.scope = sc → Inv B env true σ R s → ExtS env.locals Rm R → Pend B.w Rm R sls us → T B A (assignInOrder ((assignEach ts env).map (·.2)) us) (fun _ => AllBound B env σ' Rm) s
theorem Pend.inv {w : World} {Rm R : RM} {sl : Slot} {sls : List Slot} {us : List Value} (h : Pend w Rm R (sl :: sls) us) : ∃ u r, us = u :: r ∧ ResOK w Rm R sl u ∧ (∀ a, ownAt sl u a → ¬ ownsIn sls r a) ∧ Pend w Rm R sls r := by
  cases h with
  | cons _ u _ us hr d p => exact ⟨u, us, rfl, hr, d, p⟩
theorem Pend.nil_inv {w : World} {Rm R : RM} {us : List Value} (h : Pend w Rm R [] us) : us = [] := by cases h; rfl
theorem RowQ.cons {t : Expr} {ts : List Expr} {sl : Slot} {sls : List Slot} {σ σ₁ σ₂ : St} (q : AsgQ B A sc t sl σ σ₁) (r : RowQ B A sc ts sls σ₁ σ₂) : RowQ B A sc (t :: ts) (sl :: sls) σ σ₂ := by
  refine ⟨fun env => ?_, fun env Rm R s us he I x p => ?_⟩
  · rw [q.plain]
    refine ⟨congrArg (· + 1) (r.len env).1, ?_⟩
    rw [List.findIdx?_cons, (r.len env).2]
    rfl
  · obtain ⟨u, us, rfl, hr, dj, p⟩ := p.inv
    rw [q.plain]
    exact assignInOrder_cons ((q.go env Rm R s u he I x hr).mono fun _ s₁ ⟨R₁, I₁, x₁, k₁⟩ => r.go env Rm R₁ s₁ us he I₁ x₁ (p.imp fun sl₂ u₂ q o => k₁ sl₂ u₂ q fun a h1 h2 => dj a h1 (o a h2)))
theorem assignEach_sound (S : SoundE B A C ev sc) (hS : kSet B.K = true) : ∀ (ts : List Expr) (sls : List Slot) (σ : St), Steps1 C (fun k => assignEachM ev sc ts sls σ k) (RowQ B A sc ts sls σ)
  | [], sls, σ => fun k K => .gd fun h => by
    cases List.isEmpty_iff.mp h
    exact K _ ⟨fun _ => ⟨rfl, rfl⟩, fun env Rm R s us he I x p => by rw [p.nil_inv]; exact assignInOrder_nil ⟨R, I, x⟩⟩
  | t :: ts, sls, σ => fun k K => .opt fun p hp => by
    cases headTail_inv hp
    exact assignM_sound S hS t p.1 σ _ fun σ₁ q => assignEach_sound S hS ts p.2 σ₁ _ fun σ₂ r => K _ (RowQ.cons q r)
noncomputable def NamesQ (B : Bs) (A : Around) (sc : Scope) (xs : List Str) (sls : List Slot) (σ σ' : St) : Prop :=
  ∀ env Rm R s us, env.scope = sc → Inv B env true σ R s → ExtS env.locals Rm R → Pend B.w Rm R sls us → T B A (assignInOrder (xs.map fun n => bindName env n) us) (fun _ => AllBound B env σ' Rm) s
theorem bindAll_sound : ∀ (xs : List Str) (sls : List Slot) (σ : St), Steps1 C (fun k => bindAllM sc xs sls σ k) (NamesQ B A sc xs sls σ)
  | [], sls, σ => fun k K => .gd fun h => by
    cases List.isEmpty_iff.mp h
    exact K _ fun env Rm R s us he I x p => by rw [p.nil_inv]; exact assignInOrder_nil ⟨R, I, x⟩
  | x :: xs, sls, σ => fun k K => .opt fun p hp => .opt fun σ₁ hb => bindAll_sound xs p.2 σ₁ _ fun σ₂ r => K _ fun env Rm R s us he I x₀ pd => by
    rw [headTail_inv hp] at pd
    obtain ⟨u, us, rfl, hr, dj, pd⟩ := pd.inv
    exact assignInOrder_cons (wpAny_bindName ((bindM_sound he (.inl rfl) I x₀ hr σ₁ hb).mono fun _ s₁ ⟨R₁, I₁, x₁, k₁⟩ => r env Rm R₁ s₁ us he I₁ x₁ (pd.imp fun sl₂ u₂ q o => k₁ sl₂ u₂ q fun a h1 h2 => dj a h1 (o a h2))))
theorem ownsIn_append {sl : Slot} {u : Value} {a : Addr} : ∀ {sls : List Slot} {us : List Value}, us.length = sls.length → (ownsIn (sls ++ [sl]) (us ++ [u]) a ↔ ownsIn sls us a ∨ ownAt sl u a)
  | [], [], _ => ⟨fun h => h.elim .inr .inl, fun h => h.elim False.elim .inl⟩
  | s :: sls, v :: us, h => by
    show (ownAt s v a ∨ ownsIn (sls ++ [sl]) (us ++ [u]) a) ↔ (ownAt s v a ∨ ownsIn sls us a) ∨ _
    rw [ownsIn_append (Nat.succ.inj h), or_assoc]
theorem ownsIn_reverse {a : Addr} : ∀ {sls : List Slot} {us : List Value}, us.length = sls.length → (ownsIn sls.reverse us.reverse a ↔ ownsIn sls us a)
  | [], [], _ => Iff.rfl
  | s :: sls, v :: us, h => by
    have h : us.length = sls.length := Nat.succ.inj h
    rw [List.reverse_cons, List.reverse_cons, ownsIn_append (by rw [List.length_reverse, List.length_reverse, h]), ownsIn_reverse h]
    exact Or.comm
section
variable {w : World} {Rm R : RM}
theorem Pend.snoc {sl : Slot} {u : Value} (hr : ResOK w Rm R sl u) {sls : List Slot} {us : List Value} (p : Pend w Rm R sls us) : (∀ a, ownAt sl u a → ¬ ownsIn sls us a) → Pend w Rm R (sls ++ [sl]) (us ++ [u]) := by
  induction p with
  | nil => exact fun _ => .cons _ _ _ _ hr (fun _ _ h => h) .nil
  | cons s v sls us h d p ih => exact fun k => .cons _ _ _ _ h (fun a q z' => ((ownsIn_append p.length).mp z').elim (fun z => d a q z) fun z => k a z (.inl q)) (ih fun a q z => k a q (.inr z))
theorem Pend.reverse {sls : List Slot} {us : List Value} (p : Pend w Rm R sls us) : Pend w Rm R sls.reverse us.reverse := by
  induction p with
  | nil => exact .nil
  | cons s v sls us h d p ih =>
    rw [List.reverse_cons, List.reverse_cons]
    exact ih.snoc h fun a q z => d a q ((ownsIn_reverse p.length).mp z)
end
theorem no_stars : ∀ {es : List Expr} {env : Env}, (starEach es env).any (·.1) = false → (es.any fun | .Starred .. => true | _ => false) = false
  | [], _, _ => rfl
  | e :: es, env, h => by
    cases e <;> first | exact no_stars (es := es) (env := env) h | (cases h)
theorem swapped_spec {env : Env} {ts es : List Expr} {k k' : Nat} {p p' : Pos} (hk : env.scope.kind = .function) (hlen : ts.length = es.length) (hst : (es.any fun | .Starred .. => true | _ => false) = false) (hca : es.all (constantsAlone 8) = false) :
    swappedStores [.Tuple ts k p] (.Tuple es k' p') env = pure (swapNames env.scope ts es) := by
  have hb : env.blockKind = .function := by unfold Env.blockKind; rw [hk]; rfl
  have hf : ∀ (f : Expr → Option Str) line, (∀ e, f e = tgtName env.scope line e) → ts.filterMap f = ts.filterMap (tgtName env.scope line) := fun f line h => by rw [show f = tgtName env.scope line from funext h]
  have hst : ∀ f : Expr → Bool, (∀ e, f e = match e with | .Starred .. => true | _ => false) → es.any f = false := fun f h => by rw [show f = _ from funext h]; exact hst
  unfold swappedStores swapNames
  dsimp only
  rw [hb, hst _ (fun e => by cases e <;> rfl), hca, hf _ ((Option.map (fun x => x.pos.line) ts.head?).getD 0) (fun e => by cases e <;> rfl), hlen]
  generalize List.filterMap (tgtName env.scope ((Option.map (fun x => x.pos.line) ts.head?).getD 0)) ts = nm
  cases h1 : (es.length == 2 || es.length == 3) with
  | false => rfl
  | true =>
    cases h2 : nm.length == es.length with
    | false => simp [bne, h2]
    | true =>
      cases h3 : nm.eraseDups.length == nm.length with
      | false => simp [bne, h2, h3]
      | true =>
        cases h4 : es.all (foldedForSure 8) with
        | true => simp [bne, h2, h3, h4]
        | false => simp [bne, h2, h3, h4]
end
end Mini
namespace Mini
structure Step (Rm R R' : RM) : Prop where
  same : ∀ b, (∃ sp, Rm b = some sp) → R' b = R b
  old : ∀ b q, R b = some q → Nat.beq 1 q.tag = false → R' b = some q
  reg : ∀ b q r, R' b = some q → q.regNo = some r → R b = some q
section
variable {B : Bs} {A : Around} {sc : Scope} {n : Nat} {Rm R R' : RM} {s s' : Shared}
theorem reg_tag1 {sp : Spec} {r : Nat} (h : sp.regNo = some r) : Nat.beq 1 sp.tag = false := by
  cases sp with
  | reg q v => rfl
  | held q o => rfl
  | _ => exact ns h
theorem Step.le (x : Step Rm R R') : Le R R' := ⟨fun a o h => x.old a _ h rfl, fun a r ⟨q, h, e⟩ => ⟨q, x.old a q h (reg_tag1 e), e⟩⟩
theorem Step.extS {L : Addr} (x : Step Rm R R') (h : ExtS L Rm R) : ExtS L Rm R' :=
  ⟨fun a sp e => by rw [x.same a ⟨sp, e⟩]; exact h.dom a sp e, fun a r v e => by rw [x.same a ⟨_, e⟩]; exact h.reg a r v e, fun m e => by rw [x.same L ⟨_, e⟩]; exact h.selfv m e, fun a sp e p q => by rw [x.same a ⟨_, e⟩]; exact h.old a sp e p q⟩
theorem Step.inv {env : Env} {own : Bool} {σ : St} (x : Step Rm R R') (I : Inv B env own σ R s) (H : HS B R' s') : Inv B env own σ R' s' :=
  ⟨H, I.fm.le x.le fun b q e hq => x.old b q e (inFrame_tag1 hq), I.rg.ext_same fun a r q hq => ⟨fun e => x.old a q e (reg_tag1 hq), fun e => x.reg a q r e hq⟩⟩
theorem Step.refl (Rm R : RM) : Step Rm R R := ⟨fun _ _ => rfl, fun _ _ h _ => h, fun _ _ _ h _ => h⟩
theorem Step.trans {S : RM} (x : Step Rm R R') (y : Step Rm R' S) : Step Rm R S :=
  ⟨fun b h => (y.same b h).trans (x.same b h), fun b q h k => y.old b q (x.old b q h k) k, fun b q r h k => x.reg b q r (y.reg b q r h k) k⟩
theorem Step.upd {I : Addr} {sp : Spec} (hn : Rm I = none) (h : ∀ q, R I = some q → q.tag = 1) (hr : sp.regNo = none) : Step Rm R (upd R I sp) :=
  ⟨fun b ⟨q, e⟩ => upd_ne _ _ fun hb => by rw [hb, hn] at e; exact ns e, fun b q e k => (upd_ne R sp fun hb => by rw [h q (hb ▸ e)] at k; exact nomatch k).trans e, fun b q r e k => (upd_or e).elim (fun h => by rw [h.2, hr] at k; exact ns k) fun h => h.2⟩
theorem Step.new {I : Addr} {sp : Spec} (hn : Rm I = none) (h : R I = none) (hr : sp.regNo = none) : Step Rm R (Mini.upd R I sp) := .upd hn (fun q e => by rw [h] at e; exact ns e) hr
theorem Step.hide {I : Addr} {o : Obj} (hn : Rm I = none) (h : R I = some (.pin o)) : Step Rm R (hide I R) :=
  ⟨fun b ⟨q, e⟩ => hide_ne _ fun hb => by rw [hb, hn] at e; exact ns e, fun b q e k => hide_keep h e k, fun b q r e k => (hide_back e).2⟩
inductive Went (B : Bs) (Rm R : RM) (P : RM → Heap → Prop) (v : V) (u : Value) (s₂ : Shared) : Prop
  | mk (R' : RM) (H : HS B R' s₂) (r : RepV B.w R' v u) (st : P R' s₂.heap) (x : Step Rm R R') : Went B Rm R P v u s₂
structure Src (B : Bs) (A : Around) (Rm : RM) (t : Expr) (it : Addr) (xs : List V) where
  St : Nat → RM → Heap → Prop
  keep : ∀ i L R R' s s', HS B R s → HS B R' s' → ExtS L R R' → St i R s.heap → St i R' s'.heap
  turn : ∀ i R s v, HS B R s → St i R s.heap → xs[i]? = some v → T B A (pyNext (.ref it)) (fun q s₁ => ∃ u, q = some u ∧ T B A (letOwnedTupleGo t (.ref it) u) (fun _ => Went B Rm R (St (i + 1)) v u) s₁) s
  stop : ∀ R s, HS B R s → St xs.length R s.heap → T B A (pyNext (.ref it)) (fun q s₁ => q = none ∧ ∃ R', HS B R' s₁ ∧ Step Rm R R') s
inductive Ready (B : Bs) (A : Around) (Rm : RM) (t : Expr) (xs : List V) (s : Shared) : Value → Prop
  | mk (it : Addr) (R : RM) (H : HS B R s) (x : Step Rm Rm R) (F : Src B A Rm t it xs) (st : F.St 0 R s.heap) : Ready B A Rm t xs s (.ref it)
theorem ExtS.pin {L a : Addr} {o : Obj} (x : ExtS L R R') (h : R a = some (.pin o)) : R' a = some (.pin o) := x.old a _ h (fun e => nomatch e) fun _ _ e => nomatch e
theorem src_feed {I : Addr} {xs : List V} {t : Expr} (F : Feed B A Rm I xs) (hn : Rm I = none) {o : Obj} (H : HS B (upd Rm I (.pin o)) s) (st : F.St 0 s.heap) : Ready B A Rm t xs s (.ref I) :=
  ⟨I, _, H, .new hn hn rfl,
    { St := fun i R h => Ke Rm R ∧ (∃ o, R I = some (.pin o)) ∧ F.St i h
      keep := fun i L R R' s s' H H' x ⟨ke, ⟨o, hI⟩, st⟩ => ⟨ke.trans x.ke, ⟨o, x.pin hI⟩, F.keep H H' ke (ke.trans x.ke) hI (x.pin hI) st⟩
      turn := fun i R s v H ⟨ke, ⟨o, hI⟩, st⟩ hv => (F.next H ke hI st hv).mono fun q s₁ h => by
        obtain ⟨u, o', hu, H₁, st₁⟩ := h
        have k := ke_upd (sp' := .pin o') hI rfl rfl
        exact ⟨u, rfl, F.owned st₁ ⟨_, H₁, hu.mono k.le, ⟨ke.trans k, ⟨o', upd_same ..⟩, st₁⟩, .upd hn (fun q e => by rw [hI] at e; rw [← Option.some.inj e]; rfl) rfl⟩⟩
      stop := fun R s H ⟨ke, ⟨o, hI⟩, st⟩ => (F.stop H hI st).mono fun q s₁ ⟨e, H₁⟩ => ⟨e, _, H₁, .hide hn hI⟩ },
    ⟨Ext.ke (ext_upd_fresh (L := none) hn), ⟨o, upd_same ..⟩, st⟩⟩
theorem pin_alloc (H : HS B R s) (o : Obj) (hf : o.isFreed = false) : HS B (upd R s.heap.objs.size (.pin o)) { s with heap := s.heap.push o } := H.alloc hf (Heap.get?_push_size _ hf) (fun _ e => ns e) rfl
theorem src_begin {t : Expr} {xs : List V} {v : V} {u : Value} (H : HS B Rm s) (rm : A.handled = none) (e : overM v = some xs) (hv : RepV B.w Rm v u) : T B A (pyIter u) (fun r s' => Ready B A Rm t xs s' r) s :=
  (begin_sound H rm e hv).mono fun it s' h => by
    obtain ⟨o, hf, F, st⟩ := h
    exact src_feed F H.fresh (pin_alloc H o hf) st
theorem src_rev {t : Expr} {v : V} {xs : List V} {u : Value} (H : HS B Rm s) (rm : A.handled = none) (hv : RepV B.w Rm v u) (hx : v.list? = some xs) : T B A (call (.type "reversed") [u]) (fun r s₁ => T B A (pyIter r) (fun r s' => Ready B A Rm t xs.reverse s' r) s₁) s := by
  cases V.list_eq hx
  obtain ⟨l, o, rfl, hz, hR, ho⟩ := hv.box rfl
  obtain ⟨items, ep, rfl, hr⟩ := ho.inv
  have hl : IsL s.heap l items.toArray ep := H.frozen hR
  refine call_reversed_list hl.isList ?_
  have W := Walks.listRev (prog := PW) (w := B.w) (A := A) rm s.heap.objs.size l (Nat.ne_of_lt (Heap.lt_size hl)) items.toArray
  have hlen : items.toArray.size = xs.reverse.length := by rw [List.size_toArray, hr.length, List.length_reverse]
  rw [hlen] at W ⊢
  have st : (s.heap.push (revObj l ((xs.reverse.length : Int) - 1))).IsRevIter s.heap.objs.size l ((xs.reverse.length : Int) - 1 - ((0 : Nat) : Int)) := ⟨_, Heap.get?_push_size _ rfl, rfl, by delta revObj; simp⟩
  refine wpAny_pyIter_revIter st (src_feed (F := ⟨_, _, _, W, fun b hb hbI => ?_, fun i h ⟨_, ⟨o, ho, hc, _⟩, _⟩ => ⟨o, _, ho, hc, by decide⟩, fun i v u hv hP => ?_⟩) H.fresh (pin_alloc H _ rfl) ⟨Nat.zero_le _, st, hl.isList.push _⟩)
  · rw [List.mem_singleton.mp ((List.mem_cons.mp hb).resolve_left hbI)]
    exact ⟨_, .inl hR⟩
  · have hi := (List.getElem?_eq_some_iff.mp hv).1
    have e1 : xs[xs.length - 1 - i]? = some v := by
      rw [List.getElem?_reverse (by rw [List.length_reverse] at hi; exact hi)] at hv; exact hv
    have := hr.at (xs.length - 1 - i)
    rw [e1] at this
    obtain ⟨u', hu', r⟩ := this
    have hP' : items[xs.length - 1 - i]? = some u := by simpa using hP
    rw [hu'] at hP'; cases hP'; exact r
end
end Mini
namespace Mini
theorem enumFrom_get : ∀ (xs : List V) (k i : Nat), (enumFrom k xs)[i]? = (xs[i]?).map fun x => .tuple [.int ((k + i : Nat) : Int), x]
  | [], k, i => rfl
  | x :: r, k, 0 => rfl
  | x :: r, k, i + 1 => by
    show (enumFrom (k + 1) r)[i]? = (r[i]?).map _
    rw [enumFrom_get r (k + 1) i, Nat.succ_add_eq_add_succ]
theorem enumFrom_length : ∀ (xs : List V) (k : Nat), (enumFrom k xs).length = xs.length
  | [], _ => rfl
  | _ :: r, k => congrArg (· + 1) (enumFrom_length r (k + 1))
section
variable {B : Bs} {A : Around} {sc : Scope} {n : Nat} {Rm R R' : RM} {s s' : Shared}
structure EnumAt (B : Bs) (xs : List V) (items : List Value) (ep : Nat) (e it l : Addr) (i : Nat) (R : RM) (h : Heap) : Prop where
  le : i ≤ xs.length
  pe : ∃ oe, R e = some (.pin oe)
  pit : ∃ oi, R it = some (.pin oi)
  en : ∃ old, IsEnum h e it (i : Int) old
  li : h.IsListIter it l i
  pl : R l = some (.frozen { cls := .type "list", data := .seq items.toArray ep })
  rep : RepL B.w R xs items
section
variable {xs : List V} {items : List Value} {ep : Nat} {e it l : Addr} {i : Nat}
theorem EnumAt.keep {L : Addr} {s₁ s₂ : Shared} (G : HS B R s₁) (G' : HS B R' s₂) (x : ExtS L R R') (h : EnumAt B xs items ep e it l i R s₁.heap) : EnumAt B xs items ep e it l i R' s₂.heap := by
  obtain ⟨hi, ⟨oe, h1⟩, ⟨oi, h2⟩, ⟨old, h3⟩, h4, h5, h6⟩ := h
  have e1 := x.pin h1
  have e2 := x.pin h2
  have g1 : s₁.heap.get? e = some oe := G.holds _ _ h1
  have g2 : s₁.heap.get? it = some oi := G.holds _ _ h2
  have g1' : s₂.heap.get? e = some oe := G'.holds _ _ e1
  have g2' : s₂.heap.get? it = some oi := G'.holds _ _ e2
  exact ⟨hi, ⟨oe, e1⟩, ⟨oi, e2⟩, ⟨old, g1'.trans (g1.symm.trans h3)⟩, h4.at fun o q => g2'.trans (g2.symm.trans q), x.le.1 _ _ h5, h6.mono x.le⟩
theorem EnumAt.stop (rm : A.handled = none) {s₁ : Shared} (hei : e ≠ it) (ni : Rm it = none) (G : HS B R s₁) (h : EnumAt B xs items ep e it l xs.length R s₁.heap) : T B A (pyNext (.ref e)) (fun q s₂ => q = none ∧ ∃ R', HS B R' s₂ ∧ Step Rm R R') s₁ := by
  obtain ⟨hi, _, ⟨oi, h2⟩, ⟨old, h3⟩, h4, h5, h6⟩ := h
  refine wpAny_pyNext_enum_end rm h3 h4 ⟨_, G.frozen h5, rfl, _, rfl⟩ (by rw [List.getElem?_toArray]; exact List.getElem?_eq_none_iff.mpr (Nat.le_of_eq h6.length)) fun h₁ hx => ⟨rfl, _, (G.hide h2).moved (fun b o ⟨sp, hb⟩ hbo => hx b o (hide_back hb).1 hbo) rfl rfl, .hide ni h2⟩
theorem enum_map {s₁ : Shared} {h₂ : Heap} {oe oi oe' oi' : Obj} {T' : Obj} {tk : Nat} (G : HS B R s₁) (ne : Rm e = none) (ni : Rm it = none) (nT : Rm s₁.heap.objs.size = none) (hei : e ≠ it) (h1 : R e = some (.pin oe)) (h2 : R it = some (.pin oi)) (hk : ∀ b o, b ≠ e → b ≠ it → s₁.heap.get? b = some o → h₂.get? b = some o)
    (q6 : h₂.get? e = some oe') (hoi : h₂.get? it = some oi') (hT : h₂.get? s₁.heap.objs.size = some T') :
    ∃ R₄, HS B R₄ { s₁ with heap := h₂, toks := tk } ∧ Step Rm R R₄ ∧ R₄ e = some (.pin oe') ∧ R₄ it = some (.pin oi') ∧ R₄ s₁.heap.objs.size = some (.frozen T') := by
  have lt1 : e < s₁.heap.objs.size := G.lt h1
  have lt2 : it < s₁.heap.objs.size := G.lt h2
  have h2' : hide e R it = some (.pin oi) := (hide_ne _ hei.symm).trans h2
  have G₁ := ((G.hide h1).hide h2').moved (s' := { s₁ with heap := h₂, toks := tk }) (fun b o ⟨sp, hb⟩ hbo => hk b o (hide_back (hide_back hb).2).1 (hide_back hb).1 hbo) rfl rfl
  have n1 : hide it (hide e R) e = none := (hide_ne _ hei).trans (hide_same _ _)
  have G₂ := G₁.add (sp := .pin oe') n1 q6 (fun _ e => ns e) rfl
  have n2 : upd (hide it (hide e R)) e (.pin oe') it = none := (upd_ne _ _ hei.symm).trans (hide_same _ _)
  have G₃ := G₂.add (sp := .pin oi') n2 hoi (fun _ e => ns e) rfl
  have n3 : upd (upd (hide it (hide e R)) e (.pin oe')) it (.pin oi') s₁.heap.objs.size = none := by
    rw [upd_ne _ _ (Nat.ne_of_gt lt2), upd_ne _ _ (Nat.ne_of_gt lt1), hide_ne _ (Nat.ne_of_gt lt2), hide_ne _ (Nat.ne_of_gt lt1)]; exact G.fresh
  exact ⟨_, G₃.add (sp := .frozen T') n3 hT (fun _ e => ns e) rfl, ((((Step.hide ne h1).trans (.hide ni h2')).trans (.new ne n1 rfl)).trans (.new ni n2 rfl)).trans (.new nT n3 rfl), upd_new n3 (upd_new n2 (upd_same ..)), upd_new n3 (upd_same ..), upd_same ..⟩
theorem EnumAt.turn {elts : List Expr} {kk : Nat} {pos : Pos} {s₁ : Shared} {v : V} (hei : e ≠ it) (ne : Rm e = none) (ni : Rm it = none) (nT : ∀ a, it < a → Rm a = none) (G : HS B R s₁) (h : EnumAt B xs items ep e it l i R s₁.heap) (hx : (enumFrom 0 xs)[i]? = some v) :
    T B A (pyNext (.ref e)) (fun q s₂ => ∃ u, q = some u ∧ T B A (letOwnedTupleGo (.Tuple elts kk pos) (.ref e) u) (fun _ => Went B Rm R (EnumAt B xs items ep e it l (i + 1)) v u) s₂) s₁ := by
  obtain ⟨hi, ⟨oe, h1⟩, ⟨oi, h2⟩, ⟨old, h3⟩, h4, h5, h6⟩ := h
  rw [enumFrom_get] at hx
  obtain ⟨x, hxi, rfl⟩ := Option.map_eq_some_iff.mp hx
  have hri := h6.at i
  rw [hxi] at hri
  obtain ⟨ui, hui, hri⟩ := hri
  have lt1 : e < s₁.heap.objs.size := G.lt h1
  have lt2 : it < s₁.heap.objs.size := G.lt h2
  refine wpAny_pyNext_enum_item h3 h4 ⟨_, G.frozen h5, rfl, _, rfl⟩ (x := ui) (by rw [List.getElem?_toArray]; exact hui) hei fun h₁ q1 q2 q3 q4 q5 => ⟨_, rfl, wpAny_letOwnedTupleGo_enum q1 fun h₂ q6 q7 => ?_⟩
  replace q7 : Heap.SameBut e h₁ h₂ := q7
  replace q3 : h₁.get? s₁.heap.objs.size = some _ := q3
  obtain ⟨oi', hoi', _⟩ := id q2
  obtain ⟨R₄, G₄, st, a1, a2, a3⟩ := enum_map (tk := s₁.toks + 1) G ne ni (nT _ lt2) hei h1 h2 (fun b o b1 b2 hbo => (q7.2 b b1).trans (q5 b o b1 b2 hbo)) q6 ((q7.2 it hei.symm).trans hoi') ((q7.2 _ (Nat.ne_of_gt lt1)).trans q3)
  refine ⟨R₄, G₄, ?_, ⟨(List.getElem?_eq_some_iff.mp hxi).1, ⟨_, a1⟩, ⟨oi', a2⟩, ⟨ui, q6⟩, q2.at fun o q => (q7.2 it hei.symm).trans q, st.old _ _ h5 rfl, h6.mono st.le⟩, st⟩
  rw [Nat.zero_add]
  exact .obj _ _ _ G.sm a3 (.tuple _ [.int i s₁.toks, ui] _ (.cons _ _ _ _ (.int _ _) (.cons _ _ _ _ (hri.mono st.le) .nil)))
end
theorem src_enum {elts : List Expr} {kk : Nat} {pos : Pos} {v : V} {xs : List V} {u : Value} (H : HS B Rm s) (rm : A.handled = none) (hv : RepV B.w Rm v u) (hx : v.list? = some xs) : T B A (call (.type "enumerate") [u]) (fun r s₁ => T B A (pyIter r) (fun r s' => Ready B A Rm (.Tuple elts kk pos) (enumFrom 0 xs) s' r) s₁) s := by
  cases V.list_eq hx
  obtain ⟨l, o, rfl, hz, hR, ho⟩ := hv.box rfl
  obtain ⟨items, ep, rfl, hr⟩ := ho.inv
  have hl : IsL s.heap l items.toArray ep := H.frozen hR
  refine call_enumerate_1 (items := items.toArray) (n := ep) hl fun h' he hit hsz hk => wpAny_pyIter_enum he ?_
  have hei : s.heap.objs.size + 1 ≠ s.heap.objs.size := Nat.succ_ne_self _
  have ne : Rm (s.heap.objs.size + 1) = none := H.none_of (Nat.le_succ _)
  have ni : Rm s.heap.objs.size = none := H.fresh
  obtain ⟨oi, hoi, _⟩ := id hit
  have H₂ := (H.kept (s' := { s with heap := h' }) hk rfl rfl).add (sp := .pin _) ne he (fun _ e => ns e) rfl
  have ni₂ : upd Rm (s.heap.objs.size + 1) (.pin { cls := .type "enumerate", dict := none, data := .fields #[.none, .bool false, .ref s.heap.objs.size, rawInt 0, .none, .none], slots := #[] }) s.heap.objs.size = none := (upd_ne _ _ hei.symm).trans ni
  have H₃ := H₂.add (sp := .pin oi) ni₂ hoi (fun _ e => ns e) rfl
  exact ⟨_, _, H₃, (Step.new ne ne rfl).trans (.new ni ni₂ rfl), { St := EnumAt B xs items ep (s.heap.objs.size + 1) s.heap.objs.size l, keep := fun i L R R' s₁ s₂ G G' x h => h.keep G G' x, turn := fun i R s₁ v G h hx => h.turn hei ne ni (fun a ha => H.none_of (Nat.le_of_lt ha)) G hx, stop := fun R s₁ G h => by rw [enumFrom_length] at h; exact h.stop rm hei ni G },
    ⟨Nat.zero_le _, ⟨_, upd_new ni₂ (upd_same ..)⟩, ⟨oi, upd_same ..⟩, ⟨.none, he⟩, hit, upd_new ni₂ (upd_new ne hR), hr.mono ((le_upd_fresh ne).trans (le_upd_fresh ni₂))⟩⟩
end
end Mini
namespace Mini
section
variable {B : Bs} {A : Around} {C : CallT} {ev : Evs} {sc : Scope} {n : Nat}
noncomputable def OutQ (w : World) (Rm R' : RM) (out : Fl) (f : Flow) : Prop := match out with
  | .next => f = .next
  | .ret sl => ∃ u, f = .ret u ∧ ResOK w Rm R' sl u
inductive Done (B : Bs) (env : Env) (Rm : RM) (out : Fl) (σ' : St) (f : Flow) (s' : Shared) : Prop
  | mk (R' : RM) (i : Inv B env true σ' R' s') (x : ExtS env.locals Rm R') (q : OutQ B.w Rm R' out f) : Done B env Rm out σ' f s'
noncomputable def StOK (B : Bs) (A : Around) (sc : Scope) (ex : Env → Sem Flow) (σ : St) (out : Fl) (σ' : St) : Prop :=
  ∀ env Rm s, env.scope = sc → Inv B env true σ Rm s → T B A (ex env) (Done B env Rm out σ') s
theorem Done.back {env : Env} {Rm R : RM} {out : Fl} {σ' : St} {f : Flow} {s' : Shared} (x : ExtS env.locals Rm R) (d : Done B env R out σ' f s') : Done B env Rm out σ' f s' := by
  obtain ⟨R', I, y, z⟩ := d
  refine ⟨R', I, x.trans y, ?_⟩
  cases out with
  | next => exact z
  | ret sl => exact Exists.elim z fun u q => ⟨u, q.1, ResOK.backS q.2 x⟩
noncomputable def BodyQ (B : Bs) (A : Around) (C : CallT) (sc : Scope) (body : List Stmt) (bf : St → P.Ans (Fl × St)) : Prop := ∀ σ p, P.run C (bf σ) = some p → StOK B A sc (execs body) σ p.1 p.2
inductive WInv (B : Bs) (C : CallT) (ev : Evs) (t : Expr) (bf : St → P.Ans (Fl × St)) (env : Env) (Rm : RM) (p : Fl × St) (k : Nat) (s : Shared) : Prop
  | mk (σ : St) (R : RM) (h : P.run C (whileM ev t bf k σ) = some p) (i : Inv B env true σ R s) (x : ExtS env.locals Rm R) : WInv B C ev t bf env Rm p k s
theorem while_sound (S2 : SoundB B A C ev sc) {t : Expr} {body : List Stmt} {pos : Pos} {bf : St → P.Ans (Fl × St)} (hb : BodyQ B A C sc body bf) {m : Nat} {σ : St} {p : Fl × St} (h : P.run C (whileM ev t bf m σ) = some p) :
    StOK B A sc (exec (.While t body [] pos)) σ p.1 p.2 := fun env Rm s he I => by
  refine wpAny_While (codeAny_whileLoop (WInv B C ev t bf env Rm p) ?_ m ⟨σ, Rm, h, I, .refl _ _⟩)
  rintro k s₁ ⟨σ₁, R₁, h₁, I₁, x₁⟩
  cases k with
  | zero => exact ns h₁
  | succ k =>
    refine S2 t σ₁ (Z := fun q => q = p → _) _ (fun b σ₂ t₂ => ?_) p h₁ rfl
    refine .br (fun e => .bind fun q hq => ?_) fun e => .ret fun eq => ?_
    · obtain ⟨fl, σ₃⟩ := q
      cases fl with
      | next =>
        refine fun p' h₃ e' => T.to (t₂ env true R₁ s₁ he I₁) fun b' s₂ ⟨R₂, I₂, x₂, eb⟩ => ?_
        rw [show b' = true from Eq.trans eb e]
        refine T.to (hb σ₂ _ hq env R₂ s₂ he I₂) fun f s₃ ⟨R₃, I₃, x₃, ef⟩ => ?_
        rw [show f = .next from ef]
        exact ⟨k, Nat.lt_succ_self _, σ₃, R₃, e' ▸ h₃, I₃, (x₁.trans x₂.toS).trans x₃⟩
      | ret sl =>
        refine .ret fun e' => T.to (t₂ env true R₁ s₁ he I₁) fun b' s₂ ⟨R₂, I₂, x₂, eb⟩ => ?_
        rw [show b' = true from Eq.trans eb e]
        refine T.to (hb σ₂ _ hq env R₂ s₂ he I₂) fun f s₃ d => ?_
        have d' := d.back (x₁.trans x₂.toS)
        obtain ⟨R₃, I₃, x₃, u, ef, q⟩ := d
        rw [ef] at d' ⊢
        exact e' ▸ d'
    · refine T.to (t₂ env true R₁ s₁ he I₁) fun b' s₂ ⟨R₂, I₂, x₂, e'⟩ => ?_
      rw [show b' = false from Eq.trans e' e, ← eq]
      exact wpAny_execs_nil ⟨R₂, I₂, x₁.trans x₂.toS, rfl⟩
theorem ExtS.hideD {L D : Addr} {R : RM} : ExtS L (Mini.hide D R) R := ⟨fun b q e => ⟨q, (hide_back e).2⟩, fun b r v e => ⟨v, (hide_back e).2⟩, fun m e => ⟨m, (hide_back e).2, rfl⟩, fun b q e _ _ => (hide_back e).2⟩
inductive FInv (B : Bs) (C : CallT) {A : Around} (sc : Scope) {Rm₀ : RM} {t : Expr} {it : Addr} {xs : List V} (F : Src B A Rm₀ t it xs) (bf : St → P.Ans (Fl × St)) (env : Env) (Rm : RM) (p : Fl × St) (k : Nat) (s : Shared) : Prop
  | mk (i : Nat) (σ : St) (R : RM) (hk : i + k = xs.length) (h : P.run C (forM sc t bf (xs.drop i) σ) = some p) (I : Inv B env true σ R s) (x : ExtS env.locals Rm R) (st : F.St i R s.heap) : FInv B C sc F bf env Rm p k s
theorem for_sound (rm : A.handled = none) {t : Expr} {it : Addr} {body : List Stmt} {bf : St → P.Ans (Fl × St)} (hb : BodyQ B A C sc body bf) {xs : List V} {σ : St} {p : Fl × St} (h : P.run C (forM sc t bf xs σ) = some p)
    {env : Env} {Rm R : RM} {s : Shared} (he : env.scope = sc) (F : Src B A Rm t it xs) (I : Inv B env true σ R s) (x : ExtS env.locals Rm R) (st : F.St 0 R s.heap) :
    codeAny (model PW B.w) A (.forLoop t (.ref it) body [] env) (fun r s' => match r with | .ok f => Done B env Rm p.1 p.2 f s' | .error e => cameBackBy (model PW B.w) A env (fun _ _ => False) e s') s := by
  refine codeAny_forLoop_any (FInv B C sc F bf env Rm p) ?_ _ ⟨0, σ, R, Nat.zero_add _, h, I, x, st⟩
  rintro k s₁ ⟨i, σ₁, R₁, hk, h₁, I₁, x₁, st₁⟩
  cases hd : xs.drop i with
  | nil =>
    rw [hd] at h₁
    cases h₁
    rw [Nat.le_antisymm (hk ▸ Nat.le_add_right ..) (List.drop_eq_nil_iff.mp hd)] at st₁
    refine T.to (F.stop R₁ s₁ I₁.hs st₁) fun q s₂ ⟨e, R₂, H₂, x₂⟩ => ?_
    rw [e]
    exact wpAny_execs_nil ⟨R₂, x₂.inv I₁ H₂, x₂.extS x₁, rfl⟩
  | cons v ys =>
    rw [hd] at h₁
    obtain ⟨hx, hd⟩ := drop_at hd
    have hlt := (List.getElem?_eq_some_iff.mp hx).1
    cases k with
    | zero => rw [← hk] at hlt; exact absurd hlt (Nat.lt_irrefl _)
    | succ k =>
    refine (Go.opt (Z := fun q => q = p → _) fun σ₂ hbt => .bind fun q hq => ?_ : Go C _ (forM sc t bf (v :: ys) σ₁)) p h₁ rfl
    obtain ⟨fl, σ₅⟩ := q
    cases fl with
    | next =>
      refine fun p' h₃ e' => T.to (F.turn i R₁ s₁ v I₁.hs st₁ hx) fun w s₂ ⟨u, e, tt⟩ => ?_
      rw [e]
      refine T.to tt fun _ s₃ ⟨R₃, H₃, hu, st₃, x₃⟩ => T.to (target_sound he (.inl rfl) rm (x₃.inv I₁ H₃) hu σ₂ hbt) fun _ s₄ ⟨R₄, I₄, x₄, _⟩ => T.to (hb σ₂ _ hq env R₄ s₄ he I₄) fun f s₅ ⟨R₅, I₅, x₅, ef⟩ => ?_
      rw [show f = .next from ef]
      exact ⟨k, Nat.lt_succ_self _, i + 1, σ₅, R₅, by rw [Nat.succ_add]; exact hk, by rw [hd]; exact e' ▸ h₃, I₅, ((x₃.extS x₁).trans x₄).trans x₅, F.keep _ _ _ _ _ _ I₄.hs I₅.hs x₅ (F.keep _ _ _ _ _ _ H₃ I₄.hs x₄ st₃)⟩
    | ret sl =>
      refine .ret fun e' => T.to (F.turn i R₁ s₁ v I₁.hs st₁ hx) fun w s₂ ⟨u, e, tt⟩ => ?_
      rw [e]
      refine T.to tt fun _ s₃ ⟨R₃, H₃, hu, st₃, x₃⟩ => T.to (target_sound he (.inl rfl) rm (x₃.inv I₁ H₃) hu σ₂ hbt) fun _ s₄ ⟨R₄, I₄, x₄, _⟩ => T.to (hb σ₂ _ hq env R₄ s₄ he I₄) fun f s₅ d => ?_
      have d' := d.back ((x₃.extS x₁).trans x₄)
      obtain ⟨R₅, I₅, x₅, u', ef, q⟩ := d
      rw [ef] at d' ⊢
      exact e' ▸ d'
theorem used_ext {env : Env} {σ₁ σ₂ : St} {Rm : RM} {c : V} {D C₀ : Addr} {x : Str} {p : Pos} {s' : Shared} {Q : Unit → Shared → Prop} (d : CompDone B env true σ₁ Rm c D C₀ s') (he : env.scope = sc) (hb : bindM sc x (.own c) σ₁ = some σ₂)
    (fin : ∀ R' s'', Inv B env true σ₂ R' s'' → ExtS env.locals Rm R' → Q () s'') : T B A (assign (.Name x p) env (.ref D)) (fun _ s'' => ∃ m, s''.heap.Ns C₀ m ∧ ∀ h', Heap.SameBut C₀ s''.heap h' → Q () { s'' with heap := h' }) s' := by
  obtain ⟨R₂, R₈, m, I, x₁, x₂, s₀, H₀, F₂, nC, nD, hD, hC, hDC, hL⟩ := d
  refine wpAny_assign_Name ((bindM_sound (sl := .own c) (u := .ref D) he (.inl rfl) I (.hideD (D := D)) ⟨D, rfl, hD, hide_same ..⟩ σ₂ hb).mono fun _ s'' ⟨R', I', x', _⟩ => ?_)
  have hC' : R' C₀ = some (.ns m) := x'.old C₀ _ ((hide_ne _ (Ne.symm hDC)).trans hC) (fun q => hL (Option.some.inj q).symm) fun _ _ e => nomatch e
  have up : ∀ {b q}, R₂ b = some q → b ≠ C₀ ∧ ∀ {q'}, R₈ b = some q' → hide D R₈ b = some q' := fun e => ⟨fun h => by rw [h, nC] at e; exact ns e, fun e' => (hide_ne _ fun h => by rw [h, nD] at e; exact ns e).trans e'⟩
  refine ⟨m, I'.hs.holds _ _ hC', fun h' hs' => fin _ _ ⟨drop_HS I'.hs hC' hs', drop_fm I'.fm hC' hL, drop_regs I'.rg hC'⟩ ⟨fun b q e => ?_, fun b r v e => ?_, fun m₀ e => ?_, fun b q e ho hr => ?_⟩⟩
  · obtain ⟨q₂, e₂⟩ := x₁.dom b q e
    obtain ⟨q₈, e₈⟩ := x₂.dom b q₂ e₂
    obtain ⟨q', e'⟩ := x'.dom b q₈ ((up e₂).2 e₈)
    show ∃ z, dropOwn C₀ s''.heap R' b = some z
    by_cases hq : q'.owner b = some C₀
    · obtain ⟨o, ho⟩ := (I'.hs.holds b q' e').some
      refine ⟨.pin o, ?_⟩
      unfold dropOwn
      rw [if_neg (up e₂).1, e']
      exact (if_pos hq).trans (by rw [ho]; rfl)
    · exact ⟨q', drop_keep hC' e' hq⟩
  · obtain ⟨v₂, e₂⟩ := x₁.old b _ e
    obtain ⟨v₈, e₈⟩ := x₂.old b _ e₂
    exact (x'.reg b r v₈ ((up e₂).2 e₈)).imp fun v' e' => drop_keep hC' e' fun e => nomatch e
  · have e₂ := x₁.ns e
    exact (x'.selfv m₀ ((up e₂).2 (x₂.ns e₂))).imp fun m' h => ⟨drop_keep hC' h.1 (fun q => hL (Option.some.inj q)), h.2⟩
  · have e₂ := x₁.toS.old b q e ho hr
    refine drop_keep hC' (x'.old b q ((up e₂).2 (x₂.kept e₂ hr rfl)) ho hr) fun hq => ?_
    obtain ⟨m', hm'⟩ := H₀.own b q C₀ e₂ hq
    rw [nC] at hm'; exact ns hm'
theorem used_sound {e : Expr} {g : Comprehension} {scope : Scope} {newAcc : Sem Value} {σ σ₁ σ₂ : St} {c : V} {x : Str} {p pos pos' : Pos} (hcl : clausesOf e = [g])
    (hev : ∀ env use, evalThenUse e env use = (do let _ ← comprehension e scope env pos' newAcc false (eval g.iter env) (some use))) (C : CompRuns B A sc e g.iter scope newAcc σ σ₁ c) (hb : bindM sc x (.own c) σ₁ = some σ₂)
    {env : Env} {Rm : RM} {s : Shared} (he : env.scope = sc) (I : Inv B env true σ Rm s) (hs : swapsWith e (some (.Name x p)) pos.line env = pure true) : T B A (exec (.Assign [.Name x p] e pos) env) (Done B env Rm .next σ₂) s := by
  rw [exec_Assign_Name_used _ _ _ _ hs, hev]
  refine wpAny_bind (wpAny_standAt (wpAny_bind (wpAny_bind ?_)))
  obtain ⟨cl, h1, h2⟩ := C.go env true Rm s he I (compPost (model PW B.w) A (fun _ _ => False) (some (assign (.Name x p) env)) (fun _ s' => T B A (pure ()) (fun _ s' => T B A (pure Flow.next) (Done B env Rm .next σ₂) s') s')) fun D C₀ s' d => by
    show T B A (assign (.Name x p) env (.ref D)) _ s'
    exact used_ext (Q := fun _ s' => T B A (pure ()) (fun _ s' => T B A (pure Flow.next) (Done B env Rm .next σ₂) s') s') d he hb fun R' s'' i x => wpAny_pure (wpAny_pure ⟨R', i, x, rfl⟩)
  exact wpAny_comprehension_free hcl (folded_of C.set env) h1 C.kind C.loc h2
end
end Mini
namespace Mini
section
variable {B : Bs} {A : Around} {C : CallT} {ev : Evs} {sc : Scope} {n : Nat}
theorem assign_road {t value : Expr} {pos : Pos} {env : Env} {s : Shared} {Q : Flow → Shared → Prop} (hs : swapsWithSole [t] value pos.line env = pure false) (hw : swappedStores [t] value env = pure none) (ha : assignEach [t] env = [(false, assign t env)])
    (h : T B A (eval value env) (fun v s₁ => T B A (assign t env v) (fun _ => Q .next) s₁) s) : T B A (exec (.Assign [t] value pos) env) Q s := by
  rw [PySem.exec_Assign_arm]
  refine wpAny_bind (wpAny_standAt ?_)
  rw [hs]
  refine wpAny_bind (wpAny_pure ?_)
  rw [if_neg Bool.false_ne_true]
  refine wpAny_bind (h.mono fun v s₁ h₁ => ?_)
  rw [hw, ha]
  exact wpAny_bind (wpAny_pure (wpAny_bind (h₁.mono fun _ _ x => wpAny_pure x)))
theorem no_swap {t : Expr} (ht : tupOf t = none) (hl : listOfE t = none) (value : Expr) (env : Env) : swappedStores [t] value env = pure none := by
  cases t with
  | Tuple => exact ns ht.symm
  | List => exact ns hl.symm
  | _ => rfl
noncomputable def PlainQ (B : Bs) (A : Around) (sc : Scope) (t value : Expr) (pos : Pos) (σ σ' : St) : Prop := ∀ env Rm s, env.scope = sc → Inv B env true σ Rm s → swapsWithSole [t] value pos.line env = pure false → T B A (exec (.Assign [t] value pos) env) (Done B env Rm .next σ') s
theorem asg1_sound (S : SoundE B A C ev sc) (hS : kSet B.K = true) (t value : Expr) (pos : Pos) (σ : St) (ht : tupOf t = none) : Steps1 C (fun k => ev.e value σ fun sl σ₁ => assignM ev sc t sl σ₁ k) (PlainQ B A sc t value pos σ) := fun k K => by
  cases hl : listOfE t with
  | some es =>
    obtain ⟨p, rfl⟩ := list_inv hl
    exact S value σ _ fun _ _ _ => .fail
  | none => exact S value σ _ fun sl σ₁ t1 => assignM_sound S hS t sl σ₁ _ fun σ₂ q => K _ fun env Rm s he I hs => assign_road hs (no_swap ht hl value env) (q.plain [] env) (Runs.go t1 he I fun R₁ u s₁ I₁ x₁ r₁ => (q.go env Rm R₁ s₁ u he I₁ x₁.toS r₁).mono fun _ s₂ ⟨R₂, I₂, x₂, _⟩ => ⟨R₂, I₂, x₂, rfl⟩)
theorem swapNames_len {ts es : List Expr} {names : List Str} (h : swapNames sc ts es = some names) : names.length = ts.length := by
  unfold swapNames at h
  split at h
  · exact ns h
  · split at h
    · rename_i q
      cases h
      obtain ⟨q, _⟩ := Bool.and_eq_true_iff.mp q
      obtain ⟨q, _⟩ := Bool.and_eq_true_iff.mp q
      exact eq_of_beq q
    · exact ns h
theorem tup_road {ts es : List Expr} {k k' : Nat} {p p' pos : Pos} {σ σ₁ σ' : St} {sls : List Slot} (h1 : ts.length = es.length) (h2 : es.length ≤ 100) (h3 : es.all (constantsAlone 8) = false) (t1 : PQ B A sc es σ sls σ₁)
    (hh : ∀ env Rm R s us t, env.scope = sc → Inv B env true σ₁ R s → ExtS env.locals Rm R → Pend B.w Rm R sls us → s.heap.IsTuple t us.toArray → T B A (assignStores env (.ref t) (swapNames sc ts es) ((assignEach [.Tuple ts k p] env).map (·.2))) (Done B env Rm .next σ') s) :
    StOK B A sc (exec (.Assign [.Tuple ts k p] (.Tuple es k' p') pos)) σ .next σ' := fun env Rm s he I => by
  rw [PySem.exec_Assign_arm]
  refine wpAny_bind (wpAny_standAt (wpAny_bind (wpAny_pure ?_)))
  rw [if_neg Bool.false_ne_true, swapped_spec I.fm.kind h1 (no_stars (t1.nos env)) h3, he]
  refine wpAny_bind ?_
  rw [arm_eval_Tuple]
  refine wpAny_bind (wpAny_standAt (wpAny_bind (Post.go (t1.go env true Rm _ p' he I) fun R₁ us s₁ I₁ x₁ r₁ => wpAny_newTuple (wpAny_bind (wpAny_pure ?_)) (by rw [Pend.length r₁, t1.len, sizeLine_eq]; exact Nat.le_trans h2 (by decide)))))
  have g : Grow R₁ _ := .upd (sp := .pin { cls := .type "tuple", data := .seq us.toArray }) I₁.hs.fresh rfl
  exact hh env Rm _ _ us _ he (I₁.grow (pin_alloc I₁.hs { cls := .type "tuple", data := .seq us.toArray } rfl) g) (x₁.toS.trans (g.ext (some env.locals)).toS) (Pend.imp r₁ fun sl u q _ => q.ext (g.ext none)) ⟨_, Heap.get?_push_size _ rfl, rfl, _, rfl⟩
theorem tup_sound (S : SoundE B A C ev sc) (hS : kSet B.K = true) (rm : A.handled = none) (ts es : List Expr) (k k' : Nat) (p p' pos : Pos) (σ : St) : Steps1 C (fun kn => assignTup ev sc ts es σ kn) (StOK B A sc (exec (.Assign [.Tuple ts k p] (.Tuple es k' p') pos)) σ .next) := fun kn K =>
  .gd fun h1 => .gd fun h2 => .gdn fun h3 => S.pend es σ _ fun sls σ₁ t1 => .els (fun names hsw => bindAll_sound (B := B) (A := A) names.reverse sls.reverse σ₁ _ fun σ₂ t2 => K _ (tup_road (eq_of_beq h1) (Nat.le_of_ble_eq_true h2) h3 t1 fun env Rm R s us t he I x pd ht => by
      rw [hsw]
      show T B A (do rule "assign.swapped-stores"; let items ← unpackItems (.ref t) names.length none; assignInOrder (names.reverse.map fun n => bindName env n) items.reverse; pure Flow.next : Sem Flow) _ s
      rw [show names.length = us.toArray.size by rw [swapNames_len hsw, List.size_toArray, pd.length, t1.len]; exact eq_of_beq h1]
      refine wpAny_bind (wpAny_rule (wpAny_bind (wpAny_unpackItems_tuple rm ht fun h' hx => wpAny_bind ?_)))
      exact (t2 env Rm R _ us.reverse he ⟨I.hs.kept (s' := { s with heap := h' }) (fun b o e => hx b o (Nat.ne_of_lt (Heap.lt_size e)) e) rfl rfl, I.fm, I.rg⟩ x pd.reverse).mono fun _ s₂ ⟨R₂, I₂, x₂⟩ => wpAny_pure ⟨R₂, I₂, x₂, rfl⟩)) fun hsw =>
    assignEach_sound S hS ts sls σ₁ _ fun σ₂ t2 => K _ (tup_road (eq_of_beq h1) (Nat.le_of_ble_eq_true h2) h3 t1 fun env Rm R s us t he I x pd ht => by
      rw [hsw]
      show T B A (do assignAll (.ref t) [assign (.Tuple ts k p) env]; pure Flow.next : Sem Flow) _ s
      refine wpAny_bind (wpAny_assign_Tuple rm ht (by rw [(t2.len env).1, List.size_toArray, pd.length]) (t2.len env).2 fun h' hx => ?_)
      exact (t2.go env Rm R _ us he ⟨I.hs.kept (s' := { s with heap := h' }) (fun b o e => hx b o (Nat.ne_of_lt (Heap.lt_size e)) e) rfl rfl, I.fm, I.rg⟩ x pd).mono fun _ s₂ ⟨R₂, I₂, x₂⟩ => wpAny_pure ⟨R₂, I₂, x₂, rfl⟩)
theorem name_comp {e : Expr} {g : Comprehension} {scope : Scope} {newAcc : Sem Value} {σ σ₁ σ₂ : St} {c : V} {x : Str} {p pos pos' : Pos} (hsw : ∀ env, ∃ b : Bool, swapsWith e (some (.Name x p)) pos.line env = pure b) (hcl : clausesOf e = [g])
    (hev : ∀ env use, evalThenUse e env use = (do let _ ← comprehension e scope env pos' newAcc false (eval g.iter env) (some use))) (hC : CompRuns B A sc e g.iter scope newAcc σ σ₁ c) (hb : bindM sc x (.own c) σ₁ = some σ₂) (hr : EQ B A sc e σ (.own c) σ₁) : StOK B A sc (exec (.Assign [.Name x p] e pos)) σ .next σ₂ := fun env Rm s he I => by
  obtain ⟨b, hb'⟩ := hsw env
  cases b with
  | true => exact used_sound hcl hev hC hb he I hb'
  | false => exact assign_road hb' rfl rfl (Runs.go hr he I fun R₁ u s₁ I₁ x₁ r₁ => wpAny_assign_Name ((bindM_sound he (.inl rfl) I₁ x₁.toS r₁ σ₂ hb).mono fun _ s₂ ⟨R₂, I₂, x₂, _⟩ => ⟨R₂, I₂, x₂, rfl⟩))
inductive Kinds (value : Expr) : Prop
  | plain (h : ∀ t line env, swapsWithSole [t] value line env = pure false) : Kinds value
  | list (elt : Expr) (gs : List Comprehension) (scope : Scope) (p : Pos) (e : value = .ListComp elt gs scope p) : Kinds value
  | dict (kx vx : Expr) (gs : List Comprehension) (scope : Scope) (p : Pos) (e : value = .DictComp kx vx gs scope p) : Kinds value
  | set (elt : Expr) (gs : List Comprehension) (scope : Scope) (p : Pos) (e : value = .SetComp elt gs scope p) : Kinds value
theorem kinds (value : Expr) : Kinds value := by
  cases value with
  | ListComp a b c d => exact .list a b c d rfl
  | DictComp a b c d e => exact .dict a b c d e rfl
  | SetComp a b c d => exact .set a b c d rfl
  | _ => exact .plain fun _ _ _ => rfl
theorem not_name {t : Expr} (h : nameOf t = none) (o : Expr) (line : Nat) (env : Env) : swapsWith o (some t) line env = pure false := by
  unfold swapsWith
  split
  · cases t with
    | Name => exact ns h.symm
    | _ => rfl
  · rfl
theorem asg_sound {d : Nat} (hC : SoundC B A C) (F : Facts B) (hM : kMeth B.K = true) (hS : kSet B.K = true) (rm : Room A n) (t value : Expr) (pos : Pos) (σ : St) (ht : tupOf t = none) :
    Steps1 C (fun kn => (evs (d + 1) sc).e value σ fun sl σ₁ => assignM (evs (d + 1) sc) sc t sl σ₁ kn) (StOK B A sc (exec (.Assign [t] value pos)) σ .next) := fun kn K => by
  have S : SoundE B A C (evs (d + 1) sc) sc := (evs_sound hC F hM rm (d + 1) sc).1
  have S' : ∀ sc, SoundE B A C (evs d sc) sc := fun sc => (evs_sound hC F hM rm d sc).1
  have S2' : ∀ sc, SoundB B A C (evs d sc) sc := fun sc => (evs_sound hC F hM rm d sc).2
  have plain : (∀ env, swapsWithSole [t] value pos.line env = pure false) → Go C _ _ := fun hs => asg1_sound S hS t value pos σ ht kn fun σ' q => K σ' fun env Rm s he I => q env Rm s he I (hs env)
  cases hn : nameOf t with
  | none => exact plain fun env => not_name hn value _ env
  | some x =>
    obtain ⟨p, rfl⟩ := name_inv hn
    rcases kinds value with h | ⟨elt, gs, scope, pos2, rfl⟩ | ⟨kx, vx, gs, scope, pos2, rfl⟩ | ⟨elt, gs, scope, pos2, rfl⟩
    · exact plain fun env => h _ _ env
    · refine .opt fun g hg => ?_
      cases one_inv hg
      refine compL_runs (S' sc) elt g scope (S' _) (S2' _) rm pos2 σ _ fun vs σ' t => .opt fun σ₂ hb => K _ (name_comp (pos' := g.iter.pos) (fun env => ⟨_, rfl⟩) rfl (fun env use => ?_) t.2 hb (compE_sound rfl (list_shape t.1) t.2))
      obtain ⟨t', it, ifs, as⟩ := g
      cases (show as = 0 from t.1)
      rfl
    · refine .opt fun g hg => .gd fun h => ?_
      cases one_inv hg
      refine compD_runs (S' sc) kx vx g scope (S' _) (S2' _) rm pos2 σ (List.isEmpty_iff.mp h) _ fun vs σ' t => .opt fun σ₂ hb => K _ (name_comp (pos' := g.iter.pos) (fun env => ⟨_, rfl⟩) rfl (fun env use => ?_) t.2 hb (compE_sound rfl (dict_shape t.1) t.2))
      obtain ⟨t', it, ifs, as⟩ := g
      cases (show as = 0 from t.1)
      rfl
    · exact .fail
end
end Mini
namespace Mini
noncomputable def Stmts (B : Bs) (A : Around) (C : CallT) (sc : Scope) (step : {R : Type} → (St → P.Ans R) → (Slot → St → P.Ans R) → P.Ans R) (ex : Env → Sem Flow) (σ : St) : Prop :=
  ∀ {R : Type} {Z : R → Prop} (kn : St → P.Ans R) (kr : Slot → St → P.Ans R), (∀ σ', StOK B A sc ex σ .next σ' → Go C Z (kn σ')) → (∀ sl σ', StOK B A sc ex σ (.ret sl) σ' → Go C Z (kr sl σ')) → Go C Z (step kn kr)
section
variable {B : Bs} {A : Around} {C : CallT} {ev : Evs} {sc : Scope} {n d wf : Nat}
noncomputable def BlkS (B : Bs) (A : Around) (C : CallT) (sc : Scope) (b : Blk) : Prop := ∀ (body : List Stmt) (σ : St), Stmts B A C sc (fun kn kr => b.run body σ kn kr) (execs body) σ
theorem BlkS.fl {b : Blk} (h : BlkS B A C sc b) (body : List Stmt) : BodyQ B A C sc body (b.fl body) := fun σ p e => h body σ (Z := fun q => StOK B A sc (execs body) σ q.1 q.2) _ _ (fun _ t => .ret t) (fun _ _ t => .ret t) p e
theorem flow_go {R : Type} {Z : R → Prop} {ex : Env → Sem Flow} {σ : St} {p : Fl × St} {kn : St → P.Ans R} {kr : Slot → St → P.Ans R} (h : StOK B A sc ex σ p.1 p.2) (K : ∀ σ', StOK B A sc ex σ .next σ' → Go C Z (kn σ')) (K' : ∀ sl σ', StOK B A sc ex σ (.ret sl) σ' → Go C Z (kr sl σ')) : Go C Z (flow p kn kr) := by
  obtain ⟨fl, σ'⟩ := p
  cases fl with
  | next => exact K σ' h
  | ret sl => exact K' sl σ' h
theorem set_fail {it : Expr} (σ : St) {R : Type} (k : Slot → St → P.Ans R) (h : isSetE it = true) : (evs (d + 1) sc).e it σ k = .fail := by
  cases it with
  | Set es p => rfl
  | _ => exact nomatch h
noncomputable def ForQ (B : Bs) (A : Around) (C : CallT) (sc : Scope) (t it : Expr) (body : List Stmt) (pos : Pos) (σ : St) (xs : List V) (σ₁ : St) : Prop := ∀ bf p, BodyQ B A C sc body bf → P.run C (forM sc t bf xs σ₁) = some p → StOK B A sc (exec (.For t it body [] pos)) σ p.1 p.2
theorem for_ready (rm : A.handled = none) {t : Expr} {body : List Stmt} {bf : St → P.Ans (Fl × St)} (hb : BodyQ B A C sc body bf) {xs : List V} {σ : St} {p : Fl × St} (h : P.run C (forM sc t bf xs σ) = some p) {env : Env} {Rm R : RM} {s : Shared} {u : Value} (he : env.scope = sc) (I : Inv B env true σ R s) (x : ExtS env.locals Rm R) {s' : Shared} (r : Ready B A R t xs s' u) :
    codeAny (model PW B.w) A (.forLoop t u body [] env) (fun r s' => match r with | .ok f => Done B env Rm p.1 p.2 f s' | .error e => cameBackBy (model PW B.w) A env (fun _ _ => False) e s') s' := by
  obtain ⟨it, R₂, H₂, x₂, F, st⟩ := r
  exact codeAny_mono (for_sound rm hb h he F (x₂.inv I H₂) (x₂.extS (.refl _ _)) st) fun r s' d => by
    cases r with
    | ok f => exact Done.back x d
    | error e => exact d
theorem forGen_sound (S : SoundE B A C (evs (d + 1) sc) sc) (rm : A.handled = none) (t it : Expr) (body : List Stmt) (pos : Pos) (σ : St) : Steps C (fun k => forGen (evs (d + 1) sc) it σ k) (ForQ B A C sc t it body pos σ) := fun {R} {Z} k K => by
  cases hs : isSetE it with
  | true =>
    show Go C Z ((evs (d + 1) sc).e it σ _)
    rw [set_fail σ _ hs]
    exact .fail
  | false => exact S.v it σ _ fun v σ₁ t1 => .opt fun xs hxs => K xs σ₁ fun bf p hb hp env Rm s he I => wpAny_For (Runs.go t1 he I fun R₁ u s₁ I₁ x₁ r₁ => (src_begin (t := t) I₁.hs rm hxs r₁).mono fun w s₂ r => for_ready rm hb hp he I₁ x₁.toS r) (folded_of hs env)
theorem for_call (F : Facts B) (rm : A.handled = none) {t e : Expr} {nm : Str} {q pos' : Pos} {f : String} {m : Nat} {v : V} {xs : List V} (body : List Stmt) (pos : Pos) {σ σ₁ : St} (hk : sc.names.lookup nm = some .globalImplicit) (hg : gl nm = some (.fn m)) (hpv : primVal m = .type f) (hst : isStarred e = false) (t1 : VQ B A sc e σ v σ₁)
    (src : ∀ R s u, HS B R s → RepV B.w R v u → T B A (call (.type f) [u]) (fun r s₁ => T B A (pyIter r) (fun r s' => Ready B A R t xs s' r) s₁) s) : ForQ B A C sc t (.Call (.Name nm q) [e] [] pos') body pos σ xs σ₁ := fun bf p hb hp env Rm s he I =>
  wpAny_For (call_name F I (kind_of he hk) hg fun fu hfu => by
    rw [show fu = .type f from hfu.flat.trans hpv, starEach_of _ _ hst]
    exact callWith_any (.type _) rfl (spliced_cons (Runs.go t1 he I fun R₁ u s₁ I₁ x₁ r₁ => spliced_nil ⟨I₁.hs.K, (src R₁ s₁ u I₁.hs r₁).mono fun w s₂ h₂ => h₂.mono fun w s₃ r => for_ready rm hb hp he I₁ x₁.toS r⟩))) fun _ => rfl
theorem walk_inv {it : Expr} : Gv (fun p => (∃ q pos, it = .Call (.Name p.1 q) [p.2] [] pos) ∧ (p.1 == so "enumerate" || p.1 == so "reversed") = true) (walkOf it) := .bind fun p hp => .gdo fun h0 => .bind fun nm hn => .bind fun x hx => .gdo fun hw => .some ⟨by
    obtain ⟨kws, pos, rfl, e⟩ := EV.call_inv (ev_is it) hp
    obtain ⟨q, e2⟩ := name_inv hn
    rw [e, List.isEmpty_iff] at h0
    exact ⟨q, pos, by rw [h0, e2, one_inv hx]⟩, hw⟩
theorem forOver_sound (S : SoundE B A C (evs (d + 1) sc) sc) (F : Facts B) (rm : A.handled = none) (t it : Expr) (body : List Stmt) (pos : Pos) (σ : St) : Steps C (fun k => forOver (evs (d + 1) sc) sc t it σ k) (ForQ B A C sc t it body pos σ) := fun {R} {Z} k K =>
  .els (fun p hp => .gd fun hk => .gdn fun hst => S.v p.2 σ _ fun v σ₁ t1 => .opt fun xs hx => .gd fun hf => by
    obtain ⟨⟨q, pos', rfl⟩, hw⟩ := walk_inv p hp
    refine .br (fun e => .gd fun ht => ?_) fun e => ?_
    · rw [eq_of_beq e] at hk
      exact K _ _ (by
        rw [eq_of_beq e]
        obtain ⟨ts, ht⟩ := Option.isSome_iff_exists.mp ht
        obtain ⟨kk, pp, rfl⟩ := EV.tup_inv (ev_is t) ht
        exact for_call F rm body pos (glob_inv hk) (show gl (so "enumerate") = some (.fn 13) by kernel_rfl) rfl hst t1 fun R s u H hv => src_enum H rm hv hx)
    · rw [e, Bool.false_or] at hw
      rw [eq_of_beq hw] at hk
      exact K _ _ (by
        rw [eq_of_beq hw]
        exact for_call F rm body pos (glob_inv hk) (show gl (so "reversed") = some (.fn 14) by kernel_rfl) rfl hst t1 fun R s u H hv => src_rev H rm hv hx)) fun _ => forGen_sound S rm t it body pos σ k K
theorem StOK.if_ {t : Expr} {a b : List Stmt} {pos : Pos} {σ σ₁ σ' : St} {c : Bool} {out : Fl} (t1 : BQ B A sc t σ c σ₁) (t2 : StOK B A sc (execs (bif c then a else b)) σ₁ out σ') : StOK B A sc (exec (.If t a b pos)) σ out σ' := fun env Rm s he I =>
  wpAny_If (Runs.go t1 he I fun R₁ c' s₁ I₁ x₁ e => by
    rw [show c' = c from e]
    have h : T B A _ (Done B env Rm out σ') s₁ := T.mono (t2 env R₁ s₁ he I₁) fun f s₂ d => d.back x₁.toS
    cases c with
    | true => exact h
    | false => exact h)
theorem Slot.val_eq {sl : Slot} {v : V} (h : sl.val? = some v) : sl = .val v := by
  cases sl with
  | val v => exact congrArg Slot.val (Option.some.inj h)
  | _ => exact ns h
theorem StOK.expr {e : Expr} {pos : Pos} {σ σ' : St} {sl : Slot} {v : V} (hc : (callOf e).isSome = true) (t : EQ B A sc e σ sl σ') (hv : sl.val? = some v) (hn : v.none? = true) : StOK B A sc (exec (.Expr e pos)) σ .next σ' := fun env Rm s he I => by
  cases Slot.val_eq hv
  cases V.none_eq hn
  obtain ⟨q, hq⟩ := Option.isSome_iff_exists.mp hc
  obtain ⟨kws, p, rfl, _⟩ := EV.call_inv (ev_is e) hq
  refine wpAny_Expr (Runs.go t he I fun R' u s' I' x' r => ?_) ?_ rfl
  · rw [show u = .none from RepV.flat r]
    exact ⟨R', I', x'.toS, rfl⟩
  · unfold interactive; rw [I.fm.kind]; rfl
theorem StOK.cons {st : Stmt} {r : List Stmt} {σ σ₁ σ₂ : St} {out : Fl} (t : StOK B A sc (exec st) σ .next σ₁) (t2 : StOK B A sc (execs r) σ₁ out σ₂) : StOK B A sc (execs (st :: r)) σ out σ₂ := fun env Rm s he I => wpAny_execs_cons (T.mono (t env Rm s he I) fun f s₁ ⟨R₁, I₁, x₁, e⟩ => by
  rw [show f = .next from e]
  exact T.mono (t2 env R₁ s₁ he I₁) fun f s₂ d => d.back x₁)
theorem StOK.cut {st : Stmt} {r : List Stmt} {σ σ₁ : St} {sl : Slot} (t : StOK B A sc (exec st) σ (.ret sl) σ₁) : StOK B A sc (execs (st :: r)) σ (.ret sl) σ₁ := fun env Rm s he I => wpAny_execs_cons (T.mono (t env Rm s he I) fun f s₁ d => by
  obtain ⟨R₁, I₁, x₁, u, e, q⟩ := d
  rw [e]
  exact ⟨R₁, I₁, x₁, u, rfl, q⟩)
theorem StOK.give {e : Expr} {pos : Pos} {σ σ' : St} {sl : Slot} (t : EQ B A sc e σ sl σ') : StOK B A sc (exec (.Return (some e) pos)) σ (.ret sl) σ' := fun env Rm s hs I => wpAny_Return_some (Runs.go t hs I fun R' u s' I' x' q => ⟨R', I', x'.toS, u, rfl, q⟩)
theorem stepS_sound (hC : SoundC B A C) (F : Facts B) (hM : kMeth B.K = true) (hS : kSet B.K = true) (rm : Room A n) {b : Blk} (hb : BlkS B A C sc b) (st : Stmt) (σ : St) : Stmts B A C sc (fun kn kr => stepS wf (evs (d + 1) sc) sc b st σ kn kr) (exec st) σ := fun kn kr K K' => by
  have S : SoundE B A C (evs (d + 1) sc) sc := (evs_sound hC F hM rm (d + 1) sc).1
  have S2 : SoundB B A C (evs (d + 1) sc) sc := (evs_sound hC F hM rm (d + 1) sc).2
  cases st with
  | Return ve pos => exact .opt fun e he => S e σ _ fun sl σ' t => K' sl σ' (he ▸ .give t)
  | Expr e pos => exact .gd fun hc => S e σ _ fun sl σ' t => .opt fun v hv => .gd fun hn => K σ' (.expr hc t hv hn)
  | Assign ts value pos =>
    exact .opt fun t ht => .els (fun us hu => .opt fun es hes => by
      obtain ⟨k, p, rfl⟩ := EV.tup_inv (ev_is t) hu
      obtain ⟨k', p', rfl⟩ := EV.tup_inv (ev_is value) hes
      rw [one_inv ht] at K
      exact tup_sound S hS rm.hd us es k k' p p' pos σ kn K) fun hu => by
      rw [one_inv ht] at K
      exact asg_sound hC F hM hS rm t value pos σ hu kn K
  | If t a b' pos =>
    exact S2 t σ _ fun c σ₁ t1 => .br (fun e => hb a σ₁ kn kr (fun σ' t2 => K σ' (.if_ t1 (e ▸ t2))) fun sl σ' t2 => K' sl σ' (.if_ t1 (e ▸ t2))) fun e => hb b' σ₁ kn kr (fun σ' t2 => K σ' (.if_ t1 (e ▸ t2))) fun sl σ' t2 => K' sl σ' (.if_ t1 (e ▸ t2))
  | For t it body els pos =>
    exact .gd fun h => by
      cases List.isEmpty_iff.mp h
      exact forOver_sound S F rm.hd t it body pos σ _ fun xs σ₁ q => .bind fun p hp => flow_go (q _ p (hb.fl body) hp) K K'
  | While t body els pos =>
    exact .gd fun h => by
      cases List.isEmpty_iff.mp h
      exact .bind fun p hp => flow_go (while_sound S2 (hb.fl body) hp) K K'
  | _ => exact .fail
theorem blkM_sound (hC : SoundC B A C) (F : Facts B) (hM : kMeth B.K = true) (hS : kSet B.K = true) (rm : Room A n) {b : Blk} (hb : BlkS B A C sc b) : ∀ (body : List Stmt) (σ : St), Stmts B A C sc (fun kn kr => blkM wf (evs (d + 1) sc) sc b body σ kn kr) (execs body) σ
  | [], σ => fun kn kr K K' => K σ fun env Rm s he I => wpAny_execs_nil ⟨Rm, I, .refl _ _, rfl⟩
  | st :: r, σ => fun kn kr K K' => stepS_sound hC F hM hS rm hb st σ _ kr (fun σ₁ t => blkM_sound hC F hM hS rm hb r σ₁ kn kr (fun σ₂ t2 => K σ₂ (.cons t t2)) fun sl σ₂ t2 => K' sl σ₂ (.cons t t2)) fun sl σ₁ t => K' sl σ₁ (.cut t)
theorem blk_sound (hC : SoundC B A C) (F : Facts B) (hM : kMeth B.K = true) (hS : kSet B.K = true) (rm : Room A n) : ∀ k, BlkS B A C sc (blk wf sc k)
  | 0 => fun _ _ => fun _ _ _ _ => .fail
  | k + 1 => fun body σ => blkM_sound hC F hM hS rm (blk_sound hC F hM hS rm k) body σ
end
end Mini
namespace Mini
noncomputable def nthD {α : Type} (d : α) : List α → Nat → α
  | [], _ => d
  | a :: _, 0 => a
  | _ :: r, n + 1 => nthD d r n
noncomputable def noStmt : Stmt := .Pass ⟨0, 0, 0, 0⟩
noncomputable def stmtAt (i : Nat) : Stmt := nthD noStmt PW.main.body i
noncomputable def methAt (i j : Nat) : Stmt := match stmtAt i with
  | .ClassDef _ _ _ b _ _ _ _ _ _ _ => nthD noStmt b j
  | _ => noStmt
noncomputable def paramsOf : Stmt → Arguments
  | .FunctionDef _ p _ _ _ _ _ _ _ _ => p
  | _ => { posonlyargs := [], args := [], vararg := none, kwonlyargs := [], kw_defaults := [], kwarg := none, defaults := [] }
noncomputable def bodyOf : Stmt → List Stmt
  | .FunctionDef _ _ b _ _ _ _ _ _ _ => b
  | _ => []
noncomputable def scopeOf : Stmt → Scope
  | .FunctionDef _ _ _ _ _ _ s _ _ _ => s
  | _ => PW.main.scope
noncomputable def bindP : List Arg → List V → Rho → Option Rho
  | [], vs, ρ => gdo vs.isEmpty (some ρ)
  | p :: ps, vs, ρ => (headTail vs).bind fun q => bindP ps q.2 (setv ρ p.arg (.val q.1))
theorem cells_keep {x : Str} : ∀ (names : List (Str × NameKind)) (n : Nat) (acc : List (Str × Addr)), (acc.lookup x).isSome = true → ((cellsFrom n names acc).lookup x).isSome = true
  | [], _, _, h => h
  | (y, k) :: r, n, acc, h => by
    unfold cellsFrom
    cases k == .cell with
    | true =>
      refine cells_keep r (n + 1) ((y, n) :: acc) ?_
      rw [List.lookup_cons]
      cases x == y with
      | true => rfl
      | false => exact h
    | false => exact cells_keep r n acc h
theorem cells_some {x : Str} : ∀ (names : List (Str × NameKind)) (n : Nat) (acc : List (Str × Addr)), (x, NameKind.cell) ∈ names → ((cellsFrom n names acc).lookup x).isSome = true
  | [], _, _, h => nomatch h
  | (y, k) :: r, n, acc, h => by
    unfold cellsFrom
    rcases List.mem_cons.mp h with e | h
    · injection e with e1 e2
      rw [← e1, ← e2]
      exact cells_keep r (n + 1) ((x, n) :: acc) (by rw [List.lookup_cons, beq_self_eq_true]; rfl)
    · cases k == .cell with
      | true => exact cells_some r (n + 1) ((y, n) :: acc) h
      | false => exact cells_some r n acc h
noncomputable def cellAt (cs : List (Str × Addr)) (b : Addr) : Option Str := (cs.find? (fun p => p.2 == b)).bind fun p => gdo (decide (cs.lookup p.1 = some b)) (some p.1)
theorem cellAt_lookup {cs : List (Str × Addr)} {b : Addr} {y : Str} (h : cellAt cs b = some y) : cs.lookup y = some b := by
  obtain ⟨p, _, h⟩ := bnd h
  obtain ⟨h1, h2⟩ := gdo_some h
  exact Option.some.inj h2 ▸ of_decide_eq_true h1
theorem pairwise_eq {cs : List (Str × Addr)} (hp : cs.Pairwise fun x y => x.2 ≠ y.2) {p q : Str × Addr} (h1 : p ∈ cs) (h2 : q ∈ cs) (e : p.2 = q.2) : p = q := by
  induction hp with
  | nil => exact nomatch h1
  | cons a _ ih =>
    rcases List.mem_cons.mp h1 with e1 | g1 <;> rcases List.mem_cons.mp h2 with e2 | g2
    · rw [e1, e2]
    · exact absurd (e1 ▸ e) (a q g2)
    · exact absurd (e2 ▸ e.symm) (a p g1)
    · exact ih g1 g2
theorem cellAt_of {cs : List (Str × Addr)} (hp : cs.Pairwise fun x y => x.2 ≠ y.2) {c : Addr} {y : Str} (h : cs.lookup y = some c) : cellAt cs c = some y := by
  have hm : (y, c) ∈ cs := lookup_mem h
  unfold cellAt
  cases hf : cs.find? (fun p => p.2 == c) with
  | none => exact absurd (beq_self_eq_true c) (List.find?_eq_none.mp hf _ hm)
  | some p =>
    rw [pairwise_eq hp (List.mem_of_find?_eq_some hf) hm (eq_of_beq (List.find?_some hf :))]
    show gdo (decide (cs.lookup y = some c)) _ = _
    rw [decide_eq_true h]
    rfl
noncomputable def frameMap (R : RM) (L : Addr) (m : Str → Option Value) (cs : List (Str × Addr)) (cm : Str → Option Value) : RM := fun b => if b = L then some (.ns m) else elo (cellAt cs b) (fun y => some (.cell L y (cm y))) (R b)
section
variable {B : Bs} {A : Around} {R : RM} {s s₁ : Shared} {L : Addr} {m cm : Str → Option Value} {cs : List (Str × Addr)}
theorem frame_old (H : HS B R s) (x : InCallC s L m cs cm s₁) {b : Addr} {sp : Spec} (h : R b = some sp) : frameMap R L m cs cm b = some sp := by
  have hb := H.lt h
  have hL := x.toInCall.fresh
  unfold frameMap
  rw [if_neg (Nat.ne_of_lt (Nat.lt_of_lt_of_le hb hL))]
  cases hc : cellAt cs b with
  | none => exact h
  | some y => exact absurd (Nat.lt_trans (x.above _ _ (lookup_mem (cellAt_lookup hc))) hb) (Nat.not_lt.mpr hL)
theorem frame_cell (x : InCallC s L m cs cm s₁) {y : Str} {c : Addr} (h : cs.lookup y = some c) : frameMap R L m cs cm c = some (.cell L y (cm y)) := by
  unfold frameMap
  rw [if_neg (Nat.ne_of_gt (x.above _ _ (lookup_mem h))), cellAt_of x.apart h]
  rfl
theorem frame_new {b : Addr} {sp : Spec} (h : frameMap R L m cs cm b = some sp) : (b = L ∧ sp = .ns m) ∨ (∃ y, cs.lookup y = some b ∧ sp = .cell L y (cm y)) ∨ R b = some sp := by
  unfold frameMap at h
  by_cases hb : b = L
  · rw [if_pos hb] at h
    exact .inl ⟨hb, (Option.some.inj h).symm⟩
  · rw [if_neg hb] at h
    cases hc : cellAt cs b with
    | none => rw [hc] at h; exact .inr (.inr h)
    | some y => rw [hc] at h; exact .inr (.inl ⟨y, cellAt_lookup hc, (Option.some.inj h).symm⟩)
theorem frame_reg {b : Addr} {sp : Spec} {r : Nat} (h : frameMap R L m cs cm b = some sp) (e : sp.regNo = some r) : R b = some sp := by
  rcases frame_new h with ⟨_, q⟩ | ⟨y, _, q⟩ | q
  · rw [q] at e; exact ns e
  · rw [q] at e; exact ns e
  · exact q
theorem frame_grow (H : HS B R s) (x : InCallC s L m cs cm s₁) : Grow R (frameMap R L m cs cm) :=
  ⟨fun _ _ h => frame_old H x h, fun a sp h e => by
    cases hr : sp.regNo with
    | none => rfl
    | some r => rw [frame_reg e hr] at h; exact sn h⟩
theorem frame_HS (H : HS B R s) (x : InCallC s L m cs cm s₁) : HS B (frameMap R L m cs cm) s₁ := by
  have g := frame_grow H x
  obtain ⟨h', tk, rfl⟩ := x.toInCall.same
  have key : ∀ b r, RegAt (frameMap R L m cs cm) b r → RegAt R b r := fun b r ⟨q, e, e'⟩ => ⟨q, frame_reg e e', e'⟩
  have nsL : ∀ {b : Addr} {sp : Spec} {L' : Addr}, sp.owner b = some L' → (b = L ∧ sp = .ns m) ∨ (∃ y, cs.lookup y = some b ∧ sp = .cell L y (cm y)) → frameMap R L m cs cm L' = some (.ns m) := fun eo h => by
    rcases h with ⟨q, q'⟩ | ⟨y, _, q⟩
    · rw [q', q] at eo; rw [← Option.some.inj eo]; exact if_pos rfl
    · rw [q] at eo; rw [← Option.some.inj eo]; exact if_pos rfl
  refine ⟨fun b sp e => ?_, fun b o e => frame_old H x (H.base b o e), fun b sp L' e eo => ?_, fun b c r e1 e2 => H.regs b c r (key b r e1) (key c r e2), H.gens, H.os⟩
  · rcases frame_new e with ⟨q, q'⟩ | ⟨y, hy, q⟩ | e
    · rw [q, q']; exact x.toInCall.ns
    · rw [q]; exact x.cell y b hy
    · exact (H.holds b sp e).mono g.le fun o q => x.toInCall.keep b o q
  · rcases frame_new e with q | q | e
    · exact ⟨m, nsL eo (.inl q)⟩
    · exact ⟨m, nsL eo (.inr q)⟩
    · exact (H.own b sp L' e eo).imp fun m' hm' => frame_old H x hm'
end
section
variable {w : World} {R : RM} {kindOf : Str → Option NameKind}
noncomputable def placed (kindOf : Str → Option NameKind) (m cm : Str → Option Value) (x : Str) : Option Value := if kindOf x = some .local then m x else cm x
noncomputable def putL (kindOf : Str → Option NameKind) (m : Str → Option Value) (y : Str) (u : Value) : Str → Option Value := if kindOf y = some .local then fun z => if z = y then some u else m z else m
noncomputable def putC (kindOf : Str → Option NameKind) (m : Str → Option Value) (y : Str) (u : Value) : Str → Option Value := if kindOf y = some .local then m else fun z => if z = y then some u else m z
theorem placed_put {m cm : Str → Option Value} {x y : Str} {u : Value} : placed kindOf (putL kindOf m y u) (putC kindOf cm y u) x = if x = y then some u else placed kindOf m cm x := by
  unfold placed putL putC
  by_cases hy : kindOf y = some .local
  · rw [if_pos hy, if_pos hy]
    by_cases e : x = y
    · rw [e, if_pos hy, if_pos rfl, if_pos rfl]
    · rw [if_neg e, if_neg e]
  · rw [if_neg hy, if_neg hy]
    by_cases e : x = y
    · rw [e, if_neg hy, if_pos rfl, if_pos rfl]
    · rw [if_neg e, if_neg e]
theorem RepL.uncons {vs : List V} {us : List Value} {q : V × List V} (h : RepL w R vs us) (e : headTail vs = some q) : ∃ u r, us = u :: r ∧ RepV w R q.1 u ∧ RepL w R q.2 r := by
  rw [headTail_inv e] at h
  exact h.inv
theorem bind_len : ∀ (ps : List Arg) {vs : List V} {us : List Value} {ρ ρ' : Rho}, bindP ps vs ρ = some ρ' → RepL w R vs us → us.length = ps.length
  | [], vs, us, _, _, h, hr => by
    rw [List.isEmpty_iff.mp (gdo_some h).1] at hr
    rw [hr.nil_inv]
    rfl
  | p :: ps, vs, us, _, _, h, hr => by
    obtain ⟨q, hq, h⟩ := bnd h
    obtain ⟨u, r, rfl, _, hr⟩ := hr.uncons hq
    exact congrArg (· + 1) (bind_len ps h hr)
theorem bind_vars {K : Str → Slot → Option Value → Prop} : ∀ (ps : List Arg) {vs : List V} {us : List Value} {ρ ρ' : Rho} {m cm : Str → Option Value}, (∀ p ∈ ps, ∀ v u, RepV w R v u → K p.arg (.val v) (some u)) → bindP ps vs ρ = some ρ' → RepL w R vs us →
    (∀ x sl, ρ.lookup x = some sl → K x sl (placed kindOf m cm x)) → ∀ x sl, ρ'.lookup x = some sl → K x sl (placed kindOf (bindL kindOf ((ps.map (·.arg)).zip us) m) (bindC kindOf ((ps.map (·.arg)).zip us) cm) x)
  | [], _, _, _, _, m, cm, _, h, _, k => Option.some.inj (gdo_some h).2 ▸ k
  | p :: ps, vs, us, ρ, ρ', m, cm, hK, h, hr, k => by
    obtain ⟨q, hq, h⟩ := bnd h
    obtain ⟨u, r, rfl, hv, hr⟩ := hr.uncons hq
    refine bind_vars ps (m := putL kindOf m p.arg u) (cm := putC kindOf cm p.arg u) (fun q hq => hK q (List.mem_cons_of_mem _ hq)) h hr fun x sl hx => ?_
    rw [lookup_setv] at hx
    rw [placed_put]
    by_cases e : x = p.arg
    · rw [if_pos e] at hx ⊢
      rw [e, ← Option.some.inj hx]
      exact hK p List.mem_cons_self _ _ hv
    · rw [if_neg e] at hx ⊢
      exact k x sl hx
end
section
variable {B : Bs} {A : Around} {R : RM} {s s₁ : Shared}
structure FnIs (B : Bs) (a : Addr) (st : Stmt) (fd : FuncData) : Prop where
  obj : B.K.lookup a = some ⟨.type "function", none, .func fd, #[]⟩
  body : fd.body = .stmts (bodyOf st)
  scope : fd.scope = scopeOf st
  glob : fd.globals = mainGlobals
  blt : fd.builtins = builtinsNs
  clo : fd.closure = []
  code : codeIn B.K fd.code fd.qualname = true
  co : (scopeOf st).isCoroutine = false
  gen : (scopeOf st).isGenerator = false
  kind : (scopeOf st).kind = .function
  loc : ∀ p ∈ (paramsOf st).args, (scopeOf st).names.lookup p.arg = some .local ∨ (scopeOf st).names.lookup p.arg = some .cell
  bind : ∀ s us, B.K.In s.heap → us.length = (paramsOf st).args.length → BindsTo s fd ⟨us, []⟩ (((paramsOf st).args.map (·.arg)).zip us)
noncomputable def FnOK (B : Bs) (a : Addr) (st : Stmt) : Prop := ∃ fd, FnIs B a st fd
noncomputable def zipped (st : Stmt) (us : List Value) : List (Str × Value) := ((paramsOf st).args.map (·.arg)).zip us
structure Entry (B : Bs) (R : RM) (s : Shared) (st : Stmt) (us : List Value) (env : Env) (R₁ : RM) (s₁ : Shared) : Prop where
  scope : env.scope = scopeOf st
  kind : env.scope.kind = .function
  glob : env.globals = mainGlobals
  blt : env.builtins = builtinsNs
  fresh : s.heap.objs.size ≤ env.locals
  hs : HS B R₁ s₁
  grow : Grow R R₁
  ns : R₁ env.locals = some (.ns (bindL env.kindOf (zipped st us) fun _ => none))
  cell : ∀ y, env.kindOf y = some .cell → ∃ c, env.cells.lookup y = some c ∧ R₁ c = some (.cell env.locals y (bindC env.kindOf (zipped st us) (fun _ => none) y))
theorem call_frame {a : Addr} {st : Stmt} {us : List Value} {Rs : Result → Shared → Prop} (FO : FnOK B a st) (hroom : A.depth < recursionLimit) (H : HS B R s) (hlen : us.length = (paramsOf st).args.length)
    (h : ∀ env R₁ s₁, Entry B R s st us env R₁ s₁ → T B (A.deeper env) (execs (bodyOf st) env) (fun f s' => Rs (.ok (.ret (match f with | .ret v => v | _ => .none))) s') s₁) :
    codeAny (model PW B.w) A (.call (.ref a) ⟨us, []⟩) Rs s := by
  obtain ⟨fd, f⟩ := FO
  refine codeAny_call_function (o := ⟨.type "function", none, .func fd, #[]⟩) hroom (H.K _ _ f.obj) rfl (by rw [f.scope]; exact f.co) (by rw [f.scope]; exact f.gen) f.body (codeRec_of H.K f.code) (f.bind s us H.K hlen _ _ _ _ ?_)
  rw [f.clo]
  refine wpAny_newFunctionEnv_cells (by rw [f.scope]; exact f.kind) (fun x hx => ?_) fun env he s' x => ?_
  · rw [f.scope]
    obtain ⟨p, hp, e⟩ := List.mem_map.mp (List.of_mem_zip hx).1
    rw [← e]
    exact (f.loc p hp).imp id fun q => ⟨q, cells_some _ _ _ (lookup_mem q)⟩
  · subst he
    refine ⟨H.lim.keeps x.toInCall.keep, codeAny_func (T.to (h _ _ _ ⟨f.scope, ?_, f.glob, f.blt, Nat.le_refl _, frame_HS H x, frame_grow H x, if_pos rfl, fun y hy => ?_⟩) fun _ _ q => q)⟩
    · show fd.scope.kind = .function
      rw [f.scope]; exact f.kind
    · obtain ⟨c, hc⟩ := Option.isSome_iff_exists.mp (cells_some fd.scope.names (s.heap.objs.size + 1) [] (lookup_mem hy))
      exact ⟨c, hc, frame_cell x hc⟩
end
end Mini
namespace Mini
noncomputable def defTab : List (Addr × Stmt) := [(49, methAt 2 2), (91, methAt 3 2), (131, methAt 4 2), (173, methAt 5 2), (211, methAt 6 2), (272, methAt 8 2), (394, stmtAt 13), (399, stmtAt 14), (404, stmtAt 15), (409, stmtAt 16), (414, stmtAt 17), (453, stmtAt 24), (458, stmtAt 25), (465, stmtAt 26), (470, stmtAt 27), (477, stmtAt 28), (484, stmtAt 29), (489, stmtAt 30), (494, stmtAt 31), (499, stmtAt 32), (506, stmtAt 33), (513, stmtAt 34), (569, stmtAt 40), (592, methAt 41 1), (599, methAt 41 2), (613, stmtAt 43), (620, stmtAt 44), (627, stmtAt 45), (634, stmtAt 46), (639, stmtAt 47), (644, stmtAt 48), (649, stmtAt 49), (654, stmtAt 50), (659, stmtAt 51)]
noncomputable def clsTab : List (Addr × Addr × Stmt) := [(59, 35, methAt 2 0), (101, 77, methAt 3 0), (141, 119, methAt 4 0), (183, 159, methAt 5 0), (221, 201, methAt 6 0), (242, 239, methAt 7 0), (282, 260, methAt 8 0), (322, 300, methAt 9 0), (383, 380, methAt 12 0), (530, 527, methAt 36 0), (558, 548, methAt 38 0), (602, 585, methAt 41 0)]
noncomputable def madeOf : Slot → Option (Addr × List (Str × V))
  | .self C fs => some (C, fs)
  | .val v => v.inst?
  | _ => none
section
variable (wf : Nat)
open P
noncomputable def fnT (st : Stmt) (vs : List V) (μ : Mu) : Ans (Slot × Mu) := opt (bindP (paramsOf st).args vs []) fun ρ => (blk wf (scopeOf st) 8).run (bodyOf st) (ρ, μ) (fun σ' => .ret (.val .none, σ'.2)) fun sl σ' => .ret (sl, σ'.2)
noncomputable def clsT (K : Addr) (st : Stmt) (vs : List V) (μ : Mu) : Ans (Slot × Mu) := opt (headTail (paramsOf st).args) fun q => gd (q.1.arg == so "self") (gd (!(q.2.map (·.arg)).contains (so "self")) (opt (bindP q.2 vs [(so "self", .self K [])]) fun ρ => (blk wf (scopeOf st) 8).run (bodyOf st) (ρ, μ) (fun σ' => opt (σ'.1.lookup (so "self")) fun sl => opt (madeOf sl) fun i => .ret (.val (.inst i.1 i.2), σ'.2)) fun _ _ => .fail))
noncomputable def callT (a : Addr) (vs : List V) (μ : Mu) : Ans (Slot × Mu) := els (defTab.lookup a) (fun st => fnT wf st vs μ) (opt (clsTab.lookup a) fun q => clsT wf a q.2 vs μ)
noncomputable def callF : Nat → CallT
  | 0, _, _, _ => none
  | n + 1, a, vs, μ => P.run (callF n) (callT wf a vs μ)
end
structure ClsOK (B : Bs) (C f : Addr) (st : Stmt) : Prop where
  fn : FnOK B f st
  makes : makesIn B.K C = true
  init : findIn B.K (.ref C) "__init__" = some (some (.ref f))
  type : typeIn B.K (.ref f) = some (.type "function")
  keep : keepIn B.K (.ref C) = true
  self : (scopeOf st).names.lookup (so "self") = some .local
structure TabOK (B : Bs) : Prop where
  fn : ∀ a st, defTab.lookup a = some st → FnOK B a st ∧ keepIn B.K (.ref a) = true
  cls : ∀ C f st, clsTab.lookup C = some (f, st) → ClsOK B C f st
theorem bindL_other {kindOf : Str → Option NameKind} {x : Str} : ∀ (l : List (Str × Value)) (m : Str → Option Value), x ∉ l.map (·.1) → bindL kindOf l m x = m x
  | [], _, _ => rfl
  | (y, v) :: r, m, h => by
    unfold bindL
    rw [List.map_cons, List.mem_cons, not_or] at h
    rw [bindL_other r _ h.2]
    by_cases hy : kindOf y = some .local
    · rw [if_pos hy]; exact if_neg h.1
    · rw [if_neg hy]
theorem run_opt {C : CallT} {α R : Type} {o : Option α} {f : α → P.Ans R} {r : R} (h : P.run C (P.opt o f) = some r) : ∃ x, o = some x ∧ P.run C (f x) = some r := by
  cases o with
  | none => exact ns h
  | some x => exact ⟨x, rfl, h⟩
theorem run_gd {C : CallT} {R : Type} {c : Bool} {t : P.Ans R} {r : R} (h : P.run C (P.gd c t) = some r) : c = true ∧ P.run C t = some r := by
  cases c with
  | false => exact ns h
  | true => exact ⟨rfl, h⟩
section
variable {B : Bs} {A : Around} {R : RM} {s s₁ : Shared} {n wf : Nat}
theorem Room.deeper (r : Room A (n + 1)) (env : Env) : Room (A.deeper env) n := ⟨r.hd, by have := r.dp; show A.depth + 1 + 4 * n ≤ 900; omega, by have := r.un; show A.units + 3 + 20 * n ≤ 9000; omega⟩
theorem Room.under (r : Room A (n + 1)) (C : Addr) (us : List Value) (env : Env) : Room ((A.under (.builtin "type.__call__" ⟨.ref C :: us, []⟩)).deeper env) n := by
  have hw : Code.weight (.builtin "type.__call__" ⟨.ref C :: us, []⟩) = 1 := by kernel_rfl
  have hu : Code.cUnits (.builtin "type.__call__" ⟨.ref C :: us, []⟩) = 1 := by kernel_rfl
  refine ⟨r.hd, ?_, ?_⟩
  · have := r.dp
    show A.depth + Code.weight _ + 1 + 4 * n ≤ 900
    rw [hw]; omega
  · have := r.un
    show A.units + Code.cUnits _ + 3 + 20 * n ≤ 9000
    rw [hu]; omega
theorem Room.init (r : Room A (n + 1)) (C : Addr) (us : List Value) : (A.under (.builtin "type.__call__" ⟨.ref C :: us, []⟩)).depth < recursionLimit := by
  have hw : Code.weight (.builtin "type.__call__" ⟨.ref C :: us, []⟩) = 1 := by kernel_rfl
  have := r.dp
  show A.depth + Code.weight _ < recursionLimit
  rw [hw]; unfold recursionLimit; omega
theorem entry_inv {st : Stmt} {us : List Value} {env : Env} {R₁ R₂ : RM} {ρ : Rho} {μ : Mu} (E : Entry B R s st us env R₁ s₁) (H : HS B R₂ s₁) (k : ∀ b q, R₁ b = some q → Nat.beq 2 q.tag = false → R₂ b = some q) (G : RegsOK R₂ μ)
    (hv : ∀ x sl, ρ.lookup x = some sl → (env.kindOf x = some .local ∨ env.kindOf x = some .cell) ∧ VarOK B.w R₂ env.locals x sl (placed env.kindOf (bindL env.kindOf (zipped st us) fun _ => none) (bindC env.kindOf (zipped st us) fun _ => none) x)) : Inv B env true (ρ, μ) R₂ s₁ := by
  refine ⟨H, ⟨E.kind, E.glob, E.blt, ⟨_, k _ _ E.ns rfl⟩, fun x hx => ?_, fun x sl hx => ?_⟩, G⟩
  · obtain ⟨c, h1, h2⟩ := E.cell x hx
    exact ⟨c, env.locals, _, h1, k _ _ h2 rfl, fun _ => rfl⟩
  · obtain ⟨kd, v⟩ := hv x sl hx
    unfold placed at v
    rcases kd with kd | kd
    · rw [if_pos kd] at v
      exact ⟨_, .inl ⟨kd, _, k _ _ E.ns rfl, rfl⟩, v⟩
    · rw [kd, if_neg fun h => nomatch h] at v
      obtain ⟨c, h1, h2⟩ := E.cell x kd
      exact ⟨_, .inr ⟨kd, c, env.locals, h1, k _ _ h2 rfl⟩, v⟩
noncomputable def Fits (B : Bs) (A : Around) (a : Addr) (vs : List V) (μ : Mu) (p : Slot × Mu) : Prop := ∀ R s us, HS B R s → RegsOK R μ → RepL B.w R vs us → T B A (call (.ref a) us) (fun u s' => ∃ R', HS B R' s' ∧ RegsOK R' p.2 ∧ Ext none R R' ∧ ResOK B.w R R' p.1 u) s
noncomputable def Par (w : World) (R : RM) (env : Env) (x : Str) (sl : Slot) (ov : Option Value) : Prop := (env.kindOf x = some .local ∨ env.kindOf x = some .cell) ∧ VarOK w R env.locals x sl ov
theorem fn_sound (F : Facts B) (hM : kMeth B.K = true) (hS : kSet B.K = true) (hC : ∀ A, Room A n → SoundC B A (callF wf n)) (rm : Room A (n + 1)) {a : Addr} {st : Stmt} (FO : FnOK B a st) {vs : List V} {μ : Mu} {p : Slot × Mu} (h : P.run (callF wf n) (fnT wf st vs μ) = some p) : Fits B A a vs μ p := fun R s us H G hu => by
  obtain ⟨ρ, hb, h⟩ := run_opt h
  refine wpAny_call (call_frame FO rm.room H (bind_len _ hb hu) fun env R₁ s₁ E => ?_)
  have I : Inv B env true (ρ, μ) R₁ s₁ := entry_inv E E.hs (fun _ _ h _ => h) (G.ext_same E.grow.reg) (bind_vars (K := Par B.w R₁ env) _ (fun q hq v u r => ⟨by
    obtain ⟨fd, f⟩ := FO
    unfold Env.kindOf
    rw [E.scope]
    exact f.loc q hq, u, rfl, RepV.mono E.grow.le r⟩) hb hu fun x sl h => ns h)
  have rm' := rm.deeper env
  have hn : R env.locals = none := H.none_of E.fresh
  have x₀ : ExtS env.locals R R₁ := (E.grow.ext (some env.locals)).toS
  refine blk_sound (A := A.deeper env) (hC _ rm') F hM hS rm' 8 (bodyOf st) (ρ, μ) (Z := fun q => q = p → _) _ _ (fun σ' t => .ret fun e => T.mono (t env R₁ s₁ E.scope I) fun f s' d => ?_) (fun sl σ' t => .ret fun e => T.mono (t env R₁ s₁ E.scope I) fun f s' d => ?_) p h rfl
  · obtain ⟨R', I', x, d⟩ := d
    rw [← e, show f = .next from d]
    exact ⟨R', I'.hs, I'.rg, (x₀.trans x).leave H hn, .none⟩
  · obtain ⟨R', I', x, u, e', q⟩ := d
    rw [← e, e']
    exact ⟨R', I'.hs, I'.rg, (x₀.trans x).leave H hn, ResOK.backS q x₀⟩
theorem self_start {m : Str → Option Value} {d L : Addr} {x : Str} (H : HS B R s) (hd : R d = some (.temp (.dictS []))) (hm : R L = some (.ns m)) : HS B (upd R d (.var L x (.dictS []))) s ∧ Le R (upd R d (.var L x (.dictS []))) := by
  obtain ⟨o, ho, hr, hz⟩ := H.holds _ _ hd
  refine H.change (tk := s.toks) hd rfl (fun _ _ _ e => e) ⟨o, ho, hr.mono (le_upd hd rfl fun _ e => ns e), hz⟩ (fun e => nomatch e) (fun L' e => .inr ⟨m, Option.some.inj e ▸ hm, fun q => ?_⟩) (fun _ e => ns e) fun q e => ns e
  rw [← q, ← Option.some.inj e, hm] at hd
  injection hd with hd
  exact nomatch hd
theorem self_end {env : Env} {σ : St} {sl : Slot} {i : Addr × List (Str × V)} {a : Addr} (I : Inv B env true σ R s) (hx : σ.1.lookup (so "self") = some sl) (hm : madeOf sl = some i) (hv : VarAt R env (so "self") (some (.ref a))) : ∃ R', HS B R' s ∧ RegsOK R' σ.2 ∧ Ext (some env.locals) R R' ∧ RepV B.w R' (.inst i.1 i.2) (.ref a) := by
  obtain ⟨ov, hv', hk⟩ := I.fm.vars _ _ hx
  rw [hv'.det hv] at hk
  cases sl with
  | self C fs =>
    cases hm
    obtain ⟨a', d, e, h1, h2, h3⟩ := hk
    cases e
    obtain ⟨o, ho, hro, H, le, hr, hz⟩ := I.hs.freeze h2 rfl
    refine ⟨_, H, I.rg.ext_same (upd_reg_iff h2 rfl rfl), ext_upd_own h2, ?_⟩
    cases hr with
    | dictS _ _ kvs' q1 q2 q3 => exact .obj _ _ (instObj C d) h3 (upd_keep h2 h1 rfl) (.inst C fs d o kvs' (upd_same ..) q1 q2 q3)
  | val v =>
    cases V.inst_eq hm
    obtain ⟨u, e, r⟩ := hk
    cases e
    exact ⟨R, I.hs, I.rg, .refl _ _, r⟩
  | _ => exact ns hm
theorem cls_sound (F : Facts B) (hM : kMeth B.K = true) (hS : kSet B.K = true) (hC : ∀ A, Room A n → SoundC B A (callF wf n)) (rm : Room A (n + 1)) {C f : Addr} {st : Stmt} (CO : ClsOK B C f st) {vs : List V} {μ : Mu} {p : Slot × Mu} (h : P.run (callF wf n) (clsT wf C st vs μ) = some p) : Fits B A C vs μ p := fun R s us H G hu => by
  obtain ⟨⟨pa, ps⟩, hps, h⟩ := run_opt h
  obtain ⟨hself, h⟩ := run_gd h
  obtain ⟨hno, h⟩ := run_gd h
  obtain ⟨ρ, hb, h⟩ := run_opt h
  have hps : (paramsOf st).args = pa :: ps := headTail_inv hps
  have hself : pa.arg = so "self" := eq_of_beq hself
  have hno : so "self" ∉ ps.map (·.arg) := fun q => by rw [List.contains_iff_mem.mpr q] at hno; exact ft hno
  obtain ⟨hh, g, d, t, os⟩ := s
  refine wpAny_call (make_core (makes_of H.K CO.makes) (looks_findIn H.K CO.init) (fun self => bind_fn H.K self CO.type) (.inl rfl) ?_)
  have H₁ := H.alloc (o := emptyDict) (sp := .temp (.dictS [])) rfl ⟨_, Heap.get?_push_size _ rfl, dict_new hh, H.sm⟩ (fun _ e => ns e) rfl
  have hz : (hh.push emptyDict).objs.size = hh.objs.size + 1 := Heap.size_push ..
  have H₂ := H₁.alloc (o := instObj C hh.objs.size) (sp := .frozen (instObj C hh.objs.size)) rfl (Heap.get?_push_size _ rfl) (fun _ e => ns e) rfl
  have sma : (hh.objs.size + 1 == sysModules) = false := hz ▸ H₁.sm
  rw [show ({ heap := hh.push emptyDict, gens := g, drawn := d, toks := t, os := os } : Shared).heap.objs.size = hh.objs.size + 1 from hz] at H₂
  have nd : R hh.objs.size = none := H.fresh
  have g₁ : Grow R (upd R hh.objs.size (.temp (.dictS []))) := .upd nd rfl
  have n₁ : upd R hh.objs.size (.temp (.dictS [])) (hh.objs.size + 1) = none := (upd_ne _ _ (Nat.succ_ne_self _)).trans (H.none_of (Nat.le_succ _))
  have g₂ := g₁.trans (Grow.upd (sp := .frozen (instObj C hh.objs.size)) n₁ rfl)
  have hd₂ := upd_new (sp' := .frozen (instObj C hh.objs.size)) n₁ (upd_same R hh.objs.size (.temp (.dictS [])))
  have ha₂ := upd_same (upd R hh.objs.size (.temp (.dictS []))) (hh.objs.size + 1) (.frozen (instObj C hh.objs.size))
  generalize upd (upd R hh.objs.size (.temp (.dictS []))) (hh.objs.size + 1) (.frozen (instObj C hh.objs.size)) = R₂ at H₂ g₂ hd₂ ha₂
  refine call_frame CO.fn (rm.init C us) H₂ (by rw [hps]; exact congrArg (· + 1) (bind_len ps hb hu)) fun env R₃ s₃ E => ?_
  have hkl : env.kindOf (so "self") = some .local := by
    unfold Env.kindOf
    rw [E.scope]
    exact CO.self
  have hd₃ := E.grow.old _ _ hd₂
  have ha₃ := E.grow.old _ _ ha₂
  obtain ⟨H₄, le₄⟩ := self_start (x := so "self") E.hs hd₃ E.ns
  have hd₄ := upd_same R₃ hh.objs.size (.var env.locals (so "self") (.dictS []))
  have ha₄ := upd_keep (sp' := .var env.locals (so "self") (.dictS [])) hd₃ ha₃ rfl
  have ns₄ := upd_keep (sp' := .var env.locals (so "self") (.dictS [])) hd₃ E.ns rfl
  have G₄ : RegsOK (upd R₃ hh.objs.size (.var env.locals (so "self") (.dictS []))) μ := (G.ext_same (g₂.trans E.grow).reg).ext_same (upd_reg_iff hd₃ rfl rfl)
  have hm₀ : ∀ m, bindL env.kindOf (zipped st (.ref (hh.objs.size + 1) :: us)) m = bindL env.kindOf ((ps.map (·.arg)).zip us) (putL env.kindOf m (so "self") (.ref (hh.objs.size + 1))) := fun m => by
    unfold zipped
    rw [hps, ← hself]
    rfl
  have hc₀ : ∀ m, bindC env.kindOf (zipped st (.ref (hh.objs.size + 1) :: us)) m = bindC env.kindOf ((ps.map (·.arg)).zip us) (putC env.kindOf m (so "self") (.ref (hh.objs.size + 1))) := fun m => by
    unfold zipped
    rw [hps, ← hself]
    rfl
  have I : Inv B env true (ρ, μ) _ s₃ := entry_inv E H₄ (fun b q e k => upd_keep hd₃ e k) G₄ (by
    rw [hm₀, hc₀]
    refine bind_vars (K := Par B.w _ env) _ (fun q hq v u r => ⟨?_, u, rfl, RepV.mono le₄ (RepV.mono (g₂.trans E.grow).le r)⟩) hb hu fun x sl hx => ?_
    · obtain ⟨fd, f⟩ := CO.fn
      unfold Env.kindOf
      rw [E.scope]
      exact f.loc q (by rw [hps]; exact List.mem_cons_of_mem _ hq)
    · rw [placed_put]
      rw [List.lookup_cons] at hx
      cases hxs : x == so "self" with
      | false => rw [hxs] at hx; exact ns hx
      | true =>
        rw [hxs] at hx
        rw [eq_of_beq hxs, if_pos rfl, ← Option.some.inj hx]
        exact ⟨.inl hkl, _, _, rfl, ha₄, hd₄, sma⟩)
  have hms : bindL env.kindOf (zipped st (.ref (hh.objs.size + 1) :: us)) (fun _ => none) (so "self") = some (.ref (hh.objs.size + 1)) := by
    rw [hm₀, bindL_other _ _ fun q => hno ?_]
    · unfold putL
      rw [if_pos hkl]
      exact if_pos rfl
    · obtain ⟨q, hq1, hq2⟩ := List.mem_map.mp q
      rw [← hq2]
      exact (List.of_mem_zip hq1).1
  have rm' := rm.under C us env
  have hn : R env.locals = none := H.none_of (Nat.le_trans (by rw [Heap.size_push, hz]; exact Nat.le_add_right _ 2) E.fresh)
  have x₀ := ExtS.ne (sp := .var env.locals (so "self") (.dictS [])) ((g₂.trans E.grow).ext (some env.locals)).toS nd
  refine blk_sound (A := (A.under (.builtin "type.__call__" ⟨.ref C :: us, []⟩)).deeper env) (hC _ rm') F hM hS rm' 8 (bodyOf st) (ρ, μ) (Z := fun q => q = p → _) _ _ (fun σ' t => .opt fun sl hx => .opt fun i hi => .ret fun e => T.mono (t env _ s₃ E.scope I) fun f' s' d => ?_) (fun sl σ' t => .fail) p h rfl
  obtain ⟨R', I', x, d⟩ := d
  obtain ⟨m', hm', hms'⟩ := x.selfv _ ns₄
  obtain ⟨R₅, H₅, G₅, x₅, r₅⟩ := self_end (a := hh.objs.size + 1) I' hx hi (.inl ⟨hkl, m', hm', (hms'.trans hms).symm⟩)
  rw [← e, show f' = .next from d]
  exact ⟨rfl, R₅, H₅, G₅, ((x₀.trans x).trans x₅.toS).leave H hn, r₅⟩
theorem callF_sound (T₀ : TabOK B) (F : Facts B) (hM : kMeth B.K = true) (hS : kSet B.K = true) : ∀ (n : Nat) (A : Around), Room A n → SoundC B A (callF wf n)
  | 0, A, rm => fun a vs μ p h => ns h
  | n + 1, A, rm => fun a vs μ p h => by
    have hC : ∀ A, Room A n → SoundC B A (callF wf n) := fun A rm => callF_sound T₀ F hM hS n A rm
    change P.run (callF wf n) (callT wf a vs μ) = some p at h
    unfold callT at h
    cases hd : defTab.lookup a with
    | some st =>
      rw [hd] at h
      exact ⟨(T₀.fn a st hd).2, fn_sound F hM hS hC rm (T₀.fn a st hd).1 h⟩
    | none =>
      rw [hd] at h
      obtain ⟨⟨f, st⟩, hc, h⟩ := run_opt h
      have CO := T₀.cls a f st hc
      exact ⟨CO.keep, cls_sound F hM hS hC rm CO h⟩
end
end Mini
namespace Mini
namespace P
structure Md where
  cmp : CmpOp → Bool
  prim : Nat → Bool
  own : Bool
  get : Bool
  put : Bool
  bin : Bool
  fits : Bool
  each : Comprehension → Bool
  set : Bool
  call : Addr → Bool
noncomputable def Md.opn (md : Md) : Q → Bool
  | .prim n _ => md.prim n
  | .bin _ _ _ => md.bin
  | .get _ _ => md.get
  | .put _ _ _ => md.put
  | .lenset _ => md.set
  | .own _ _ _ => md.own
  | .cmp op _ _ => md.cmp op
  | .have _ => md.cmp .NotEq
  | .call a _ _ => md.call a
noncomputable def just {α : Type} (o : Option α) (P : α → Prop) : Prop := match o with
  | some x => P x
  | none => False
noncomputable def Q.says (C : CallT) (an : An) : Q → Prop
  | .prim n vs => just an.slot? fun x => Mini.prim n vs = some x
  | .bin op a b => just an.slot? fun x => binop op a b = some x
  | .get c k => just an.val? fun x => getItemM c k = some x
  | .put c k v => just an.val? fun x => putItem c k v = some x
  | .lenset xs => just an.val? fun x => Mini.lenset xs = some x
  | .own op c vs => just an.pair? fun x => ownDo op c vs = some x
  | .cmp op a b => just an.bool? fun x => cmpop op a b = some x
  | .have b => just an.bool? fun x => some b = some x
  | .call a vs μ => just an.call? fun x => C a vs μ = some x
noncomputable def next (as : List An) (f : An → List An → Prop × Option S) : Prop × Option S := match as with
  | an :: as => f an as
  | [] => (False, none)
noncomputable def nextL (as : List An) (f : List V × St → List An → Prop × Option S) : Prop × Option S := match as with
  | .lst xs σ :: as => f (xs, σ) as
  | _ => (False, none)
noncomputable def both (P : Prop) (x : Prop × Option S) : Prop × Option S := (P ∧ x.1, x.2)
section
variable (C : CallT) (md : Md) {S R : Type}
noncomputable def playAsk (q : Q) (ih : An → List An → (R → List An → Prop × Option S) → Prop × Option S) (as : List An) (K : R → List An → Prop × Option S) : Prop × Option S := match md.opn q with
  | true => next as fun an as => both (q.says C an) (ih an as K)
  | false => match q.val C with
    | some an => ih an as K
    | none => (False, none)
noncomputable def playChk (b : Bool) (ih : List An → (R → List An → Prop × Option S) → Prop × Option S) (as : List An) (K : R → List An → Prop × Option S) : Prop × Option S := match md.fits with
  | true => both (b = true) (ih as K)
  | false => match b with
    | true => ih as K
    | false => (False, none)
noncomputable def playLst (g : Comprehension) (t : Ans (List V × St)) (iht : List An → (List V × St → List An → Prop × Option S) → Prop × Option S) (ihk : List V × St → List An → (R → List An → Prop × Option S) → Prop × Option S) (as : List An) (K : R → List An → Prop × Option S) : Prop × Option S := match md.each g with
  | true => nextL as fun p as => both (run C t = some p) (ihk p as K)
  | false => iht as fun p as => ihk p as K
end
noncomputable def play (C : CallT) (md : Md) {S : Type} {R : Type} (t : Ans R) : List An → (R → List An → Prop × Option S) → Prop × Option S := Ans.rec (motive := fun {R} _ => List An → (R → List An → Prop × Option S) → Prop × Option S)
  (fun r as K => K r as) (fun _ _ => (False, none)) (fun q _ ih => playAsk C md q ih) (fun b _ ih => playChk md b ih) (fun g t _ iht ihk => playLst C md g t iht ihk) t
theorem just_map {α : Type} {v : An → Option α} {g : α → An} (i : ∀ an x, v an = some x → an = g x) {o : Option α} {an : An} (h : just (v an) fun x => o = some x) : o.map g = some an := by
  cases e : v an with
  | none => rw [e] at h; exact h.elim
  | some x =>
    rw [e] at h
    rw [show o = some x from h, i an x e]
    rfl
theorem An.slot_eq (an : An) (x : Slot) (h : an.slot? = some x) : an = .slot x := by cases an with | slot y => exact congrArg An.slot (Option.some.inj h) | _ => exact ns h
theorem An.val_eq (an : An) (x : V) (h : an.val? = some x) : an = .val x := by cases an with | val y => exact congrArg An.val (Option.some.inj h) | _ => exact ns h
theorem An.bool_eq (an : An) (x : Bool) (h : an.bool? = some x) : an = .bool x := by cases an with | bool y => exact congrArg An.bool (Option.some.inj h) | _ => exact ns h
theorem An.pair_eq (an : An) (x : V × V) (h : an.pair? = some x) : an = .pair x.1 x.2 := by cases an with | pair y z => exact Option.some.inj h ▸ rfl | _ => exact ns h
theorem An.call_eq (an : An) (x : Slot × Mu) (h : an.call? = some x) : an = .call x.1 x.2 := by cases an with | call y z => exact Option.some.inj h ▸ rfl | _ => exact ns h
theorem says_val {C : CallT} {an : An} {q : Q} (h : q.says C an) : q.val C = some an := by
  cases q with
  | prim n vs => exact just_map (g := .slot) An.slot_eq h
  | bin op a b => exact just_map (g := .slot) An.slot_eq h
  | get c k => exact just_map (g := .val) An.val_eq h
  | put c k v => exact just_map (g := .val) An.val_eq h
  | lenset xs => exact just_map (g := .val) An.val_eq h
  | own op c vs => exact just_map (g := fun p => .pair p.1 p.2) An.pair_eq h
  | cmp op a b => exact just_map (g := .bool) An.bool_eq h
  | «have» b => exact just_map (g := .bool) (o := some b) An.bool_eq h
  | call a vs μ => exact just_map (g := fun p => .call p.1 p.2) An.call_eq h
theorem play_ok {C : CallT} {md : Md} {S : Type} : ∀ {R : Type} (t : Ans R) (as : List An) (K : R → List An → Prop × Option S) (f : R → Option S), (∀ r as, (K r as).1 → f r = (K r as).2) → (play C md t as K).1 → (run C t).bind f = (play C md t as K).2
  | _, .ret r, as, K, f, hK, h => hK r as h
  | _, .fail, as, K, f, hK, h => h.elim
  | _, .ask q k, as, K, f, hK, h => by
    show ((q.val C).bind fun an => run C (k an)).bind f = (playAsk C md q (fun an => play C md (k an)) as K).2
    replace h : (playAsk C md q (fun an => play C md (k an)) as K).1 := h
    unfold playAsk at h ⊢
    cases ho : md.opn q with
    | true =>
      rw [ho] at h
      cases as with
      | nil => exact h.elim
      | cons an as =>
        rw [says_val h.1]
        exact play_ok (k an) as K f hK h.2
    | false =>
      rw [ho] at h
      cases hq : q.val C with
      | none => rw [hq] at h; exact h.elim
      | some an => rw [hq] at h; exact play_ok (k an) as K f hK h
  | _, .chk b t, as, K, f, hK, h => by
    show (gdo b (run C t)).bind f = (playChk md b (play C md t) as K).2
    replace h : (playChk md b (play C md t) as K).1 := h
    unfold playChk at h ⊢
    cases hf : md.fits with
    | true =>
      rw [hf] at h
      rw [show b = true from h.1]
      exact play_ok t as K f hK h.2
    | false =>
      rw [hf] at h
      cases b with
      | false => exact h.elim
      | true => exact play_ok t as K f hK h
  | _, .lst g t k, as, K, f, hK, h => by
    show ((run C t).bind fun p => run C (k p)).bind f = (playLst C md g t (play C md t) (fun p => play C md (k p)) as K).2
    replace h : (playLst C md g t (play C md t) (fun p => play C md (k p)) as K).1 := h
    unfold playLst at h ⊢
    cases hg : md.each g with
    | true =>
      rw [hg] at h
      cases as with
      | nil => exact h.elim
      | cons an as =>
        cases an with
        | lst xs σ =>
          rw [show run C t = some (xs, σ) from h.1]
          exact play_ok (k (xs, σ)) as K f hK h.2
        | _ => exact h.elim
    | false =>
      rw [hg] at h
      rw [Option.bind_assoc]
      exact play_ok t as _ _ (fun p as h => play_ok (k p) as K f hK h) h
noncomputable def fin {R : Type} (r : R) (as : List An) : Prop × Option R := match as with
  | [] => (True, some r)
  | _ => (False, none)
theorem play_eq {C : CallT} {md : Md} {R : Type} {t : Ans R} (as : List An) {o : Option R} {P : Prop} (h : P) (e : play C md t as fin = (P, o)) : run C t = o := by
  have k := play_ok (C := C) (md := md) t as fin some (fun r as h => by
    cases as with
    | nil => rfl
    | cons _ _ => exact h.elim) (by rw [e]; exact h)
  rw [e] at k
  refine Eq.trans ?_ k
  cases run C t <;> rfl
end P
end Mini
namespace Mini
noncomputable abbrev W0 : Nat := 100
theorem call_play (md : P.Md) {n : Nat} {a : Addr} {vs : List V} {μ : Mu} {r : Slot × Mu} (as : List P.An) {Ob : Prop} (h : Ob) (e : P.play (callF W0 n) md (callT W0 a vs μ) as P.fin = (Ob, some r)) : callF W0 (n + 1) a vs μ = some r := P.play_eq as h e
noncomputable abbrev md0 : P.Md := ⟨fun _ => false, fun _ => false, false, false, false, false, false, fun _ => false, false, fun _ => true⟩
noncomputable def muS (a b : Int) (m : Int) (met : List V) (x y : Option V) : Mu := [some (.list [.int a, .int b]), some (.dictS [(so "many", .int m)]), some (.list met), x, y]
theorem ai {a b : Prop} (x : a) (y : b) : a ∧ b := ⟨x, y⟩
theorem aq {a b c d e : Prop} (x : a) (y : b) (z : c) (w : d) (r : e) : a ∧ b ∧ c ∧ d ∧ e := ⟨x, y, z, w, r⟩
theorem ah {a b c d e f g h i : Prop} (x : a) (y : b) (z : c) (w : d) (p : e) (q : f) (s : g) (t : h) (r : i) : a ∧ b ∧ c ∧ d ∧ e ∧ f ∧ g ∧ h ∧ i := ⟨x, y, z, w, p, q, s, t, r⟩
noncomputable def vVar (x : V) : V := .inst 59 [(so "name", x)]
noncomputable def vLit (i : Int) : V := .inst 101 [(so "kind", .str (so "int")), (so "value", .int i)]
noncomputable def vApp (f : V) (xs : List V) : V := .inst 141 [(so "fun", f), (so "args", .list xs)]
noncomputable def vLam (ps : List V) (b : V) : V := .inst 183 [(so "params", .list ps), (so "body", b)]
noncomputable def vLet (x : Str) (h b : V) (r : Bool) : V := .inst 221 [(so "binds", .list [.tuple [.str x, h]]), (so "body", b), (so "is_rec", .bool r)]
noncomputable def vAlt (con : Str) (us : List V) (b : V) : V := .inst 242 [(so "key", .tuple [.str (so "con"), .str con]), (so "names", .list us), (so "body", b)]
noncomputable def vCase (v : V) (c : Str) (alts : List V) (o : V) : V := .inst 282 [(so "value", v), (so "name", .str c), (so "alts", .list alts), (so "other", o)]
noncomputable def vCon (c : Str) (xs : List V) : V := .inst 322 [(so "name", .str c), (so "args", .list xs)]
noncomputable def avV : V := .dictS [(so "h", .bool true), (so "w", .bool true)]
noncomputable def frI : V := .inst 602 [(so "avoided", .reg 3), (so "numbers", .reg 4)]
noncomputable def μS (a b m : Int) (met : List V) (nd : List (Str × V)) : Mu := [some (.list [.int a, .int b]), some (.dictS [(so "many", .int m)]), some (.list met), some avV, some (.dictS nd)]
end Mini
namespace Mini
noncomputable def mdB : P.Md := { md0 with cmp := fun _ => true, bin := true, own := true, get := true, prim := fun n => n == 4 || n == 8 || n == 18 }
section
variable {n : Nat} {d d1 w r q r2 : Int} {μ0 μ1 μ2 μ3 μ4 μ5 μ6 μ7 μ8 μ9 μ10 μ11 : Mu} {t1 t2 v s1 b1 v1 v2 : V} {ks ks1 ks2 : List (Str × V)} {names met met1 : List V} {x c con u1 u2 : Str} {x3 x4 : Option V}
theorem body_var0 (h0 : prim 4 [.dictS ks] = some (.own (.list names))) (h1 : cmpop .Gt (.int d) (.int 0) = some false) (h3 : callF W0 n 620 [.reg 0, .int 3] μ0 = some (.val (.int r), μ1)) (h4 : cmpop .Gt (.int r) (.int 0) = some true) (h5 : callF W0 n 627 [.reg 0, .list names] μ1 = some (.val v, μ2)) (h6 : callF W0 n 59 [v] μ2 = some (.val (vVar v), μ2)) : callF W0 (n + 1) 644 [.reg 0, .reg 1, .dictS ks, .int d, .reg 2] μ0 = some (.val (vVar v), μ2) :=
  call_play mdB [.slot (.own (.list names)), .bool false, .bool true, .call (.val (.int r)) μ1, .bool true, .call (.val v) μ2, .call (.val (vVar v)) μ2] (aq h0 h1 (show cmpop .Eq (.int 0) (.int 0) = some true from rfl) h3 (ai h4 (ai h5 (ai h6 trivial)))) (by kernel_rfl)
theorem body_lit0 (h0 : prim 4 [.dictS ks] = some (.own (.list names))) (h1 : cmpop .Gt (.int d) (.int 0) = some false) (h3 : callF W0 n 620 [.reg 0, .int 3] μ0 = some (.val (.int r), μ1)) (h4 : cmpop .Gt (.int r) (.int 0) = some false) (h5 : callF W0 n 101 [.str (so "int"), .int 3] μ1 = some (.val (vLit 3), μ1)) : callF W0 (n + 1) 644 [.reg 0, .reg 1, .dictS ks, .int d, .reg 2] μ0 = some (.val (vLit 3), μ1) :=
  call_play mdB [.slot (.own (.list names)), .bool false, .bool true, .call (.val (.int r)) μ1, .bool false, .call (.val (vLit 3)) μ1] (aq h0 h1 (show cmpop .Eq (.int 0) (.int 0) = some true from rfl) h3 (ai h4 (ai h5 trivial))) (by kernel_rfl)
theorem body_var1 (h0 : prim 4 [.dictS ks] = some (.own (.list names))) (h1 : cmpop .Gt (.int d) (.int 0) = some true) (h2 : callF W0 n 620 [.reg 0, .int 6] μ0 = some (.val (.int 0), μ1)) (h4 : callF W0 n 620 [.reg 0, .int 3] μ1 = some (.val (.int r), μ2)) (h5 : cmpop .Gt (.int r) (.int 0) = some true) (h6 : callF W0 n 627 [.reg 0, .list names] μ2 = some (.val v, μ3)) (h7 : callF W0 n 59 [v] μ3 = some (.val (vVar v), μ3)) : callF W0 (n + 1) 644 [.reg 0, .reg 1, .dictS ks, .int d, .reg 2] μ0 = some (.val (vVar v), μ3) :=
  call_play mdB [.slot (.own (.list names)), .bool true, .call (.val (.int 0)) μ1, .bool true, .call (.val (.int r)) μ2, .bool true, .call (.val v) μ3, .call (.val (vVar v)) μ3] (ah h0 h1 h2 (show cmpop .Eq (.int 0) (.int 0) = some true from rfl) h4 h5 h6 h7 trivial) (by kernel_rfl)
theorem body_lit1 (h0 : prim 4 [.dictS ks] = some (.own (.list names))) (h1 : cmpop .Gt (.int d) (.int 0) = some true) (h2 : callF W0 n 620 [.reg 0, .int 6] μ0 = some (.val (.int 0), μ1)) (h4 : callF W0 n 620 [.reg 0, .int 3] μ1 = some (.val (.int r), μ2)) (h5 : cmpop .Gt (.int r) (.int 0) = some false) (h6 : callF W0 n 101 [.str (so "int"), .int 3] μ2 = some (.val (vLit 3), μ2)) : callF W0 (n + 1) 644 [.reg 0, .reg 1, .dictS ks, .int d, .reg 2] μ0 = some (.val (vLit 3), μ2) :=
  call_play mdB [.slot (.own (.list names)), .bool true, .call (.val (.int 0)) μ1, .bool true, .call (.val (.int r)) μ2, .bool false, .call (.val (vLit 3)) μ2] (aq h0 h1 h2 (show cmpop .Eq (.int 0) (.int 0) = some true from rfl) (ai h4 (ai h5 (ai h6 trivial)))) (by kernel_rfl)
theorem body_app (h0 : prim 4 [.dictS ks] = some (.own (.list names))) (h1 : cmpop .Gt (.int d) (.int 0) = some true) (h2 : callF W0 n 620 [.reg 0, .int 6] μ0 = some (.val (.int 1), μ1)) (h5 : callF W0 n 59 [.str (so "h")] μ1 = some (.val (vVar (.str (so "h"))), μ1)) (h6 : binop .Sub (.int d) (.int 1) = some (.val (.int d1))) (h7 : callF W0 n 644 [.reg 0, .reg 1, .dictS ks, .int d1, .reg 2] μ1 = some (.val t1, μ2)) (h8 : binop .Sub (.int d) (.int 1) = some (.val (.int d1))) (h9 : callF W0 n 644 [.reg 0, .reg 1, .dictS ks, .int d1, .reg 2] μ2 = some (.val t2, μ3)) (h10 : callF W0 n 141 [vVar (.str (so "h")), .list [t1, t2]] μ3 = some (.val (vApp (vVar (.str (so "h"))) [t1, t2]), μ3)) : callF W0 (n + 1) 644 [.reg 0, .reg 1, .dictS ks, .int d, .reg 2] μ0 = some (.val (vApp (vVar (.str (so "h"))) [t1, t2]), μ3) :=
  call_play mdB [.slot (.own (.list names)), .bool true, .call (.val (.int 1)) μ1, .bool false, .bool true, .call (.val (vVar (.str (so "h")))) μ1, .slot (.val (.int d1)), .call (.val t1) μ2, .slot (.val (.int d1)), .call (.val t2) μ3, .call (.val (vApp (vVar (.str (so "h"))) [t1, t2])) μ3] (ah h0 h1 h2 (show cmpop .Eq (.int 1) (.int 0) = some false from rfl) (show cmpop .Eq (.int 1) (.int 1) = some true from rfl) h5 h6 h7 (ai h8 (ai h9 (ai h10 trivial)))) (by kernel_rfl)
theorem body_let_true (h0 : prim 4 [.dictS ks] = some (.own (.list names))) (h1 : cmpop .Gt (.int d) (.int 0) = some true) (h2 : callF W0 n 620 [.reg 0, .int 6] μ0 = some (.val (.int 2), μ1)) (h6 : callF W0 n 634 [.reg 1, .str (so "l")] μ1 = some (.val (.str x), μ2)) (h7 : binop .Sub (.int d) (.int 1) = some (.val (.int d1))) (h8 : callF W0 n 644 [.reg 0, .reg 1, .dictS ks, .int d1, .reg 2] μ2 = some (.val t1, μ3)) (h9 : binop .Sub (.int d) (.int 1) = some (.val (.int d1))) (h10 : callF W0 n 644 [.reg 0, .reg 1, .dictS ks, .int d1, .reg 2] μ3 = some (.val t2, μ4)) (h11 : callF W0 n 620 [.reg 0, .int 2] μ4 = some (.val (.int r), μ5)) (h12 : cmpop .Eq (.int r) (.int 0) = some true) (h13 : callF W0 n 221 [.list [.tuple [.str x, t1]], t2, .bool true] μ5 = some (.val (vLet x t1 t2 true), μ5)) : callF W0 (n + 1) 644 [.reg 0, .reg 1, .dictS ks, .int d, .reg 2] μ0 = some (.val (vLet x t1 t2 true), μ5) :=
  call_play mdB [.slot (.own (.list names)), .bool true, .call (.val (.int 2)) μ1, .bool false, .bool false, .bool true, .call (.val (.str x)) μ2, .slot (.val (.int d1)), .call (.val t1) μ3, .slot (.val (.int d1)), .call (.val t2) μ4, .call (.val (.int r)) μ5, .bool true, .call (.val (vLet x t1 t2 true)) μ5] (ah h0 h1 h2 (show cmpop .Eq (.int 2) (.int 0) = some false from rfl) (show cmpop .Eq (.int 2) (.int 1) = some false from rfl) (show cmpop .Eq (.int 2) (.int 2) = some true from rfl) h6 h7 (aq h8 h9 h10 h11 (ai h12 (ai h13 trivial)))) (by kernel_rfl)
theorem body_let_false (h0 : prim 4 [.dictS ks] = some (.own (.list names))) (h1 : cmpop .Gt (.int d) (.int 0) = some true) (h2 : callF W0 n 620 [.reg 0, .int 6] μ0 = some (.val (.int 2), μ1)) (h6 : callF W0 n 634 [.reg 1, .str (so "l")] μ1 = some (.val (.str x), μ2)) (h7 : binop .Sub (.int d) (.int 1) = some (.val (.int d1))) (h8 : callF W0 n 644 [.reg 0, .reg 1, .dictS ks, .int d1, .reg 2] μ2 = some (.val t1, μ3)) (h9 : binop .Sub (.int d) (.int 1) = some (.val (.int d1))) (h10 : callF W0 n 644 [.reg 0, .reg 1, .dictS ks, .int d1, .reg 2] μ3 = some (.val t2, μ4)) (h11 : callF W0 n 620 [.reg 0, .int 2] μ4 = some (.val (.int r), μ5)) (h12 : cmpop .Eq (.int r) (.int 0) = some false) (h13 : callF W0 n 221 [.list [.tuple [.str x, t1]], t2, .bool false] μ5 = some (.val (vLet x t1 t2 false), μ5)) : callF W0 (n + 1) 644 [.reg 0, .reg 1, .dictS ks, .int d, .reg 2] μ0 = some (.val (vLet x t1 t2 false), μ5) :=
  call_play mdB [.slot (.own (.list names)), .bool true, .call (.val (.int 2)) μ1, .bool false, .bool false, .bool true, .call (.val (.str x)) μ2, .slot (.val (.int d1)), .call (.val t1) μ3, .slot (.val (.int d1)), .call (.val t2) μ4, .call (.val (.int r)) μ5, .bool false, .call (.val (vLet x t1 t2 false)) μ5] (ah h0 h1 h2 (show cmpop .Eq (.int 2) (.int 0) = some false from rfl) (show cmpop .Eq (.int 2) (.int 1) = some false from rfl) (show cmpop .Eq (.int 2) (.int 2) = some true from rfl) h6 h7 (aq h8 h9 h10 h11 (ai h12 (ai h13 trivial)))) (by kernel_rfl)
theorem body_lam (h0 : prim 4 [.dictS ks] = some (.own (.list names))) (h1 : cmpop .Gt (.int d) (.int 0) = some true) (h2 : callF W0 n 620 [.reg 0, .int 6] μ0 = some (.val (.int 3), μ1)) (h7 : callF W0 n 634 [.reg 1, .str (so "y")] μ1 = some (.val (.str x), μ2)) (h8 : binop .Sub (.int d) (.int 1) = some (.val (.int d1))) (h9 : callF W0 n 644 [.reg 0, .reg 1, .dictS ks, .int d1, .reg 2] μ2 = some (.val t1, μ3)) (h10 : callF W0 n 183 [.list [.str x], t1] μ3 = some (.val (vLam [.str x] t1), μ3)) : callF W0 (n + 1) 644 [.reg 0, .reg 1, .dictS ks, .int d, .reg 2] μ0 = some (.val (vLam [.str x] t1), μ3) :=
  call_play mdB [.slot (.own (.list names)), .bool true, .call (.val (.int 3)) μ1, .bool false, .bool false, .bool false, .bool true, .call (.val (.str x)) μ2, .slot (.val (.int d1)), .call (.val t1) μ3, .call (.val (vLam [.str x] t1)) μ3] (ah h0 h1 h2 (show cmpop .Eq (.int 3) (.int 0) = some false from rfl) (show cmpop .Eq (.int 3) (.int 1) = some false from rfl) (show cmpop .Eq (.int 3) (.int 2) = some false from rfl) (show cmpop .Eq (.int 3) (.int 3) = some true from rfl) h7 (ai h8 (ai h9 (ai h10 trivial)))) (by kernel_rfl)
theorem body_case0 (h0 : prim 4 [.dictS ks] = some (.own (.list names))) (h1 : cmpop .Gt (.int d) (.int 0) = some true) (h2 : callF W0 n 620 [.reg 0, .int 6] μ0 = some (.val (.int w), μ1)) (h3 : cmpop .Eq (.int w) (.int 0) = some false) (h4 : cmpop .Eq (.int w) (.int 1) = some false) (h5 : cmpop .Eq (.int w) (.int 2) = some false) (h6 : cmpop .Eq (.int w) (.int 3) = some false) (h7 : callF W0 n 627 [.reg 0, .list names] μ1 = some (.val (.str x), μ2)) (h8 : callF W0 n 634 [.reg 1, .str (so "c")] μ2 = some (.val (.str c), μ3)) (h9 : getItemM (.dictS ks) (.str x) = some .none) (h11 : callF W0 n 59 [.str x] μ3 = some (.val (vVar (.str x)), μ3)) (h12 : binop .Sub (.int d) (.int 1) = some (.val (.int d1))) (h13 : callF W0 n 644 [.reg 0, .reg 1, .dictS ks, .int d1, .reg 2] μ3 = some (.val t1, μ4)) (h14 : callF W0 n 282 [vVar (.str x), .str c, .list [], t1] μ4 = some (.val (vCase (vVar (.str x)) c [] t1), μ4)) : callF W0 (n + 1) 644 [.reg 0, .reg 1, .dictS ks, .int d, .reg 2] μ0 = some (.val (vCase (vVar (.str x)) c [] t1), μ4) :=
  call_play mdB [.slot (.own (.list names)), .bool true, .call (.val (.int w)) μ1, .bool false, .bool false, .bool false, .bool false, .call (.val (.str x)) μ2, .call (.val (.str c)) μ3, .val .none, .bool true, .call (.val (vVar (.str x))) μ3, .slot (.val (.int d1)), .call (.val t1) μ4, .call (.val (vCase (vVar (.str x)) c [] t1)) μ4] (ah h0 h1 h2 h3 h4 h5 h6 h7 (aq h8 h9 (show cmpop .Is .none .none = some true from rfl) h11 (ai h12 (ai h13 (ai h14 trivial))))) (by kernel_rfl)
theorem body_case1_v0o (h0 : prim 4 [.dictS ks] = some (.own (.list names))) (h1 : cmpop .Gt (.int d) (.int 0) = some true) (h2 : callF W0 n 620 [.reg 0, .int 6] μ0 = some (.val (.int w), μ1)) (h3 : cmpop .Eq (.int w) (.int 0) = some false) (h4 : cmpop .Eq (.int w) (.int 1) = some false) (h5 : cmpop .Eq (.int w) (.int 2) = some false) (h6 : cmpop .Eq (.int w) (.int 3) = some false) (h7 : callF W0 n 627 [.reg 0, .list names] μ1 = some (.val (.str x), μ2)) (h8 : callF W0 n 634 [.reg 1, .str (so "c")] μ2 = some (.val (.str c), μ3)) (h9 : getItemM (.dictS ks) (.str x) = some (.str con)) (h10 : cmpop .Is (.str con) .none = some false) (h11 : callF W0 n 620 [.reg 0, .int 5] μ3 = some (.val (.int r), [some s1, some b1, some (.list met), x3, x4])) (h12 : cmpop .Eq (.int r) (.int 0) = some false) (h13 : callF W0 n 59 [.str x] [some s1, some b1, some (.list met), x3, x4] = some (.val (vVar (.str x)), [some s1, some b1, some (.list met), x3, x4])) (h14 : getItemM (.dictS ks) (.str x) = some (.str con)) (h15 : ownDo .append (.list met) [.tuple [.str x, .str con]] = some (.list met1, .none)) (h16 : getItemM (.dictS ks) (.str x) = some (.str con)) (h17 : prim 18 [.dictS [(so "Two", .int 2), (so "None", .int 0)], .str con, .int 1] = some (.val (.int 0))) (h18 : prim 8 [.dictS ks] = some (.own (.dictS ks))) (h20 : ownDo .update (.dictS ks) [.dictS []] = some (.dictS ks2, .none)) (h21 : getItemM (.dictS ks) (.str x) = some (.str con)) (h22 : binop .Sub (.int d) (.int 1) = some (.val (.int d1))) (h23 : callF W0 n 644 [.reg 0, .reg 1, .dictS ks2, .int d1, .reg 2] [some s1, some b1, some (.list met1), x3, x4] = some (.val t1, μ9)) (h24 : callF W0 n 242 [.tuple [.str (so "con"), .str con], .list [], t1] μ9 = some (.val (vAlt con [] t1), μ9)) (h25 : callF W0 n 620 [.reg 0, .int 2] μ9 = some (.val (.int r2), μ10)) (h26 : cmpop .Eq (.int r2) (.int 0) = some false) (h27 : callF W0 n 101 [.str (so "int"), .int 0] μ10 = some (.val (vLit 0), μ10)) (h28 : callF W0 n 282 [vVar (.str x), .str c, .list [vAlt con [] t1], vLit 0] μ10 = some (.val (vCase (vVar (.str x)) c [vAlt con [] t1] (vLit 0)), μ10)) : callF W0 (n + 1) 644 [.reg 0, .reg 1, .dictS ks, .int d, .reg 2] μ0 = some (.val (vCase (vVar (.str x)) c [vAlt con [] t1] (vLit 0)), μ10) :=
  call_play mdB [.slot (.own (.list names)), .bool true, .call (.val (.int w)) μ1, .bool false, .bool false, .bool false, .bool false, .call (.val (.str x)) μ2, .call (.val (.str c)) μ3, .val (.str con), .bool false, .call (.val (.int r)) [some s1, some b1, some (.list met), x3, x4], .bool false, .call (.val (vVar (.str x))) [some s1, some b1, some (.list met), x3, x4], .val (.str con), .pair (.list met1) .none, .val (.str con), .slot (.val (.int 0)), .slot (.own (.dictS ks)), .slot (.own (.dictS [])), .pair (.dictS ks2) .none, .val (.str con), .slot (.val (.int d1)), .call (.val t1) μ9, .call (.val (vAlt con [] t1)) μ9, .call (.val (.int r2)) μ10, .bool false, .call (.val (vLit 0)) μ10, .call (.val (vCase (vVar (.str x)) c [vAlt con [] t1] (vLit 0))) μ10] (ah h0 h1 h2 h3 h4 h5 h6 h7 (ah h8 h9 h10 h11 h12 h13 h14 h15 (ah h16 h17 h18 (show prim 8 [.list []] = some (.own (.dictS [])) from rfl) h20 h21 h22 h23 (aq h24 h25 h26 h27 (ai h28 trivial))))) (by kernel_rfl)
theorem body_case1_v0n (h0 : prim 4 [.dictS ks] = some (.own (.list names))) (h1 : cmpop .Gt (.int d) (.int 0) = some true) (h2 : callF W0 n 620 [.reg 0, .int 6] μ0 = some (.val (.int w), μ1)) (h3 : cmpop .Eq (.int w) (.int 0) = some false) (h4 : cmpop .Eq (.int w) (.int 1) = some false) (h5 : cmpop .Eq (.int w) (.int 2) = some false) (h6 : cmpop .Eq (.int w) (.int 3) = some false) (h7 : callF W0 n 627 [.reg 0, .list names] μ1 = some (.val (.str x), μ2)) (h8 : callF W0 n 634 [.reg 1, .str (so "c")] μ2 = some (.val (.str c), μ3)) (h9 : getItemM (.dictS ks) (.str x) = some (.str con)) (h10 : cmpop .Is (.str con) .none = some false) (h11 : callF W0 n 620 [.reg 0, .int 5] μ3 = some (.val (.int r), [some s1, some b1, some (.list met), x3, x4])) (h12 : cmpop .Eq (.int r) (.int 0) = some false) (h13 : callF W0 n 59 [.str x] [some s1, some b1, some (.list met), x3, x4] = some (.val (vVar (.str x)), [some s1, some b1, some (.list met), x3, x4])) (h14 : getItemM (.dictS ks) (.str x) = some (.str con)) (h15 : ownDo .append (.list met) [.tuple [.str x, .str con]] = some (.list met1, .none)) (h16 : getItemM (.dictS ks) (.str x) = some (.str con)) (h17 : prim 18 [.dictS [(so "Two", .int 2), (so "None", .int 0)], .str con, .int 1] = some (.val (.int 0))) (h18 : prim 8 [.dictS ks] = some (.own (.dictS ks))) (h20 : ownDo .update (.dictS ks) [.dictS []] = some (.dictS ks2, .none)) (h21 : getItemM (.dictS ks) (.str x) = some (.str con)) (h22 : binop .Sub (.int d) (.int 1) = some (.val (.int d1))) (h23 : callF W0 n 644 [.reg 0, .reg 1, .dictS ks2, .int d1, .reg 2] [some s1, some b1, some (.list met1), x3, x4] = some (.val t1, μ9)) (h24 : callF W0 n 242 [.tuple [.str (so "con"), .str con], .list [], t1] μ9 = some (.val (vAlt con [] t1), μ9)) (h25 : callF W0 n 620 [.reg 0, .int 2] μ9 = some (.val (.int r2), μ10)) (h26 : cmpop .Eq (.int r2) (.int 0) = some true) (h27 : callF W0 n 282 [vVar (.str x), .str c, .list [vAlt con [] t1], .none] μ10 = some (.val (vCase (vVar (.str x)) c [vAlt con [] t1] .none), μ10)) : callF W0 (n + 1) 644 [.reg 0, .reg 1, .dictS ks, .int d, .reg 2] μ0 = some (.val (vCase (vVar (.str x)) c [vAlt con [] t1] .none), μ10) :=
  call_play mdB [.slot (.own (.list names)), .bool true, .call (.val (.int w)) μ1, .bool false, .bool false, .bool false, .bool false, .call (.val (.str x)) μ2, .call (.val (.str c)) μ3, .val (.str con), .bool false, .call (.val (.int r)) [some s1, some b1, some (.list met), x3, x4], .bool false, .call (.val (vVar (.str x))) [some s1, some b1, some (.list met), x3, x4], .val (.str con), .pair (.list met1) .none, .val (.str con), .slot (.val (.int 0)), .slot (.own (.dictS ks)), .slot (.own (.dictS [])), .pair (.dictS ks2) .none, .val (.str con), .slot (.val (.int d1)), .call (.val t1) μ9, .call (.val (vAlt con [] t1)) μ9, .call (.val (.int r2)) μ10, .bool true, .call (.val (vCase (vVar (.str x)) c [vAlt con [] t1] .none)) μ10] (ah h0 h1 h2 h3 h4 h5 h6 h7 (ah h8 h9 h10 h11 h12 h13 h14 h15 (ah h16 h17 h18 (show prim 8 [.list []] = some (.own (.dictS [])) from rfl) h20 h21 h22 h23 (aq h24 h25 h26 h27 trivial)))) (by kernel_rfl)
theorem body_case1_v1o (h0 : prim 4 [.dictS ks] = some (.own (.list names))) (h1 : cmpop .Gt (.int d) (.int 0) = some true) (h2 : callF W0 n 620 [.reg 0, .int 6] μ0 = some (.val (.int w), μ1)) (h3 : cmpop .Eq (.int w) (.int 0) = some false) (h4 : cmpop .Eq (.int w) (.int 1) = some false) (h5 : cmpop .Eq (.int w) (.int 2) = some false) (h6 : cmpop .Eq (.int w) (.int 3) = some false) (h7 : callF W0 n 627 [.reg 0, .list names] μ1 = some (.val (.str x), μ2)) (h8 : callF W0 n 634 [.reg 1, .str (so "c")] μ2 = some (.val (.str c), μ3)) (h9 : getItemM (.dictS ks) (.str x) = some (.str con)) (h10 : cmpop .Is (.str con) .none = some false) (h11 : callF W0 n 620 [.reg 0, .int 5] μ3 = some (.val (.int r), [some s1, some b1, some (.list met), x3, x4])) (h12 : cmpop .Eq (.int r) (.int 0) = some false) (h13 : callF W0 n 59 [.str x] [some s1, some b1, some (.list met), x3, x4] = some (.val (vVar (.str x)), [some s1, some b1, some (.list met), x3, x4])) (h14 : getItemM (.dictS ks) (.str x) = some (.str con)) (h15 : ownDo .append (.list met) [.tuple [.str x, .str con]] = some (.list met1, .none)) (h16 : getItemM (.dictS ks) (.str x) = some (.str con)) (h17 : prim 18 [.dictS [(so "Two", .int 2), (so "None", .int 0)], .str con, .int 1] = some (.val (.int 1))) (h18 : callF W0 n 634 [.reg 1, .str (so "u")] [some s1, some b1, some (.list met1), x3, x4] = some (.val (.str u1), μ5)) (h19 : prim 8 [.dictS ks] = some (.own (.dictS ks))) (h20 : callF W0 n 627 [.reg 0, .list [.none, .str (so "Two"), .str (so "New")]] μ5 = some (.val v1, μ7)) (h21 : prim 8 [.list [.tuple [.str u1, v1]]] = some (.own (.dictS ks1))) (h22 : ownDo .update (.dictS ks) [.dictS ks1] = some (.dictS ks2, .none)) (h23 : getItemM (.dictS ks) (.str x) = some (.str con)) (h24 : binop .Sub (.int d) (.int 1) = some (.val (.int d1))) (h25 : callF W0 n 644 [.reg 0, .reg 1, .dictS ks2, .int d1, .reg 2] μ7 = some (.val t1, μ9)) (h26 : callF W0 n 242 [.tuple [.str (so "con"), .str con], .list [.str u1], t1] μ9 = some (.val (vAlt con [.str u1] t1), μ9)) (h27 : callF W0 n 620 [.reg 0, .int 2] μ9 = some (.val (.int r2), μ10)) (h28 : cmpop .Eq (.int r2) (.int 0) = some false) (h29 : callF W0 n 101 [.str (so "int"), .int 0] μ10 = some (.val (vLit 0), μ10)) (h30 : callF W0 n 282 [vVar (.str x), .str c, .list [vAlt con [.str u1] t1], vLit 0] μ10 = some (.val (vCase (vVar (.str x)) c [vAlt con [.str u1] t1] (vLit 0)), μ10)) : callF W0 (n + 1) 644 [.reg 0, .reg 1, .dictS ks, .int d, .reg 2] μ0 = some (.val (vCase (vVar (.str x)) c [vAlt con [.str u1] t1] (vLit 0)), μ10) :=
  call_play mdB [.slot (.own (.list names)), .bool true, .call (.val (.int w)) μ1, .bool false, .bool false, .bool false, .bool false, .call (.val (.str x)) μ2, .call (.val (.str c)) μ3, .val (.str con), .bool false, .call (.val (.int r)) [some s1, some b1, some (.list met), x3, x4], .bool false, .call (.val (vVar (.str x))) [some s1, some b1, some (.list met), x3, x4], .val (.str con), .pair (.list met1) .none, .val (.str con), .slot (.val (.int 1)), .call (.val (.str u1)) μ5, .slot (.own (.dictS ks)), .call (.val v1) μ7, .slot (.own (.dictS ks1)), .pair (.dictS ks2) .none, .val (.str con), .slot (.val (.int d1)), .call (.val t1) μ9, .call (.val (vAlt con [.str u1] t1)) μ9, .call (.val (.int r2)) μ10, .bool false, .call (.val (vLit 0)) μ10, .call (.val (vCase (vVar (.str x)) c [vAlt con [.str u1] t1] (vLit 0))) μ10] (ah h0 h1 h2 h3 h4 h5 h6 h7 (ah h8 h9 h10 h11 h12 h13 h14 h15 (ah h16 h17 h18 h19 h20 h21 h22 h23 (aq h24 h25 h26 h27 (ai h28 (ai h29 (ai h30 trivial))))))) (by kernel_rfl)
theorem body_case1_v1n (h0 : prim 4 [.dictS ks] = some (.own (.list names))) (h1 : cmpop .Gt (.int d) (.int 0) = some true) (h2 : callF W0 n 620 [.reg 0, .int 6] μ0 = some (.val (.int w), μ1)) (h3 : cmpop .Eq (.int w) (.int 0) = some false) (h4 : cmpop .Eq (.int w) (.int 1) = some false) (h5 : cmpop .Eq (.int w) (.int 2) = some false) (h6 : cmpop .Eq (.int w) (.int 3) = some false) (h7 : callF W0 n 627 [.reg 0, .list names] μ1 = some (.val (.str x), μ2)) (h8 : callF W0 n 634 [.reg 1, .str (so "c")] μ2 = some (.val (.str c), μ3)) (h9 : getItemM (.dictS ks) (.str x) = some (.str con)) (h10 : cmpop .Is (.str con) .none = some false) (h11 : callF W0 n 620 [.reg 0, .int 5] μ3 = some (.val (.int r), [some s1, some b1, some (.list met), x3, x4])) (h12 : cmpop .Eq (.int r) (.int 0) = some false) (h13 : callF W0 n 59 [.str x] [some s1, some b1, some (.list met), x3, x4] = some (.val (vVar (.str x)), [some s1, some b1, some (.list met), x3, x4])) (h14 : getItemM (.dictS ks) (.str x) = some (.str con)) (h15 : ownDo .append (.list met) [.tuple [.str x, .str con]] = some (.list met1, .none)) (h16 : getItemM (.dictS ks) (.str x) = some (.str con)) (h17 : prim 18 [.dictS [(so "Two", .int 2), (so "None", .int 0)], .str con, .int 1] = some (.val (.int 1))) (h18 : callF W0 n 634 [.reg 1, .str (so "u")] [some s1, some b1, some (.list met1), x3, x4] = some (.val (.str u1), μ5)) (h19 : prim 8 [.dictS ks] = some (.own (.dictS ks))) (h20 : callF W0 n 627 [.reg 0, .list [.none, .str (so "Two"), .str (so "New")]] μ5 = some (.val v1, μ7)) (h21 : prim 8 [.list [.tuple [.str u1, v1]]] = some (.own (.dictS ks1))) (h22 : ownDo .update (.dictS ks) [.dictS ks1] = some (.dictS ks2, .none)) (h23 : getItemM (.dictS ks) (.str x) = some (.str con)) (h24 : binop .Sub (.int d) (.int 1) = some (.val (.int d1))) (h25 : callF W0 n 644 [.reg 0, .reg 1, .dictS ks2, .int d1, .reg 2] μ7 = some (.val t1, μ9)) (h26 : callF W0 n 242 [.tuple [.str (so "con"), .str con], .list [.str u1], t1] μ9 = some (.val (vAlt con [.str u1] t1), μ9)) (h27 : callF W0 n 620 [.reg 0, .int 2] μ9 = some (.val (.int r2), μ10)) (h28 : cmpop .Eq (.int r2) (.int 0) = some true) (h29 : callF W0 n 282 [vVar (.str x), .str c, .list [vAlt con [.str u1] t1], .none] μ10 = some (.val (vCase (vVar (.str x)) c [vAlt con [.str u1] t1] .none), μ10)) : callF W0 (n + 1) 644 [.reg 0, .reg 1, .dictS ks, .int d, .reg 2] μ0 = some (.val (vCase (vVar (.str x)) c [vAlt con [.str u1] t1] .none), μ10) :=
  call_play mdB [.slot (.own (.list names)), .bool true, .call (.val (.int w)) μ1, .bool false, .bool false, .bool false, .bool false, .call (.val (.str x)) μ2, .call (.val (.str c)) μ3, .val (.str con), .bool false, .call (.val (.int r)) [some s1, some b1, some (.list met), x3, x4], .bool false, .call (.val (vVar (.str x))) [some s1, some b1, some (.list met), x3, x4], .val (.str con), .pair (.list met1) .none, .val (.str con), .slot (.val (.int 1)), .call (.val (.str u1)) μ5, .slot (.own (.dictS ks)), .call (.val v1) μ7, .slot (.own (.dictS ks1)), .pair (.dictS ks2) .none, .val (.str con), .slot (.val (.int d1)), .call (.val t1) μ9, .call (.val (vAlt con [.str u1] t1)) μ9, .call (.val (.int r2)) μ10, .bool true, .call (.val (vCase (vVar (.str x)) c [vAlt con [.str u1] t1] .none)) μ10] (ah h0 h1 h2 h3 h4 h5 h6 h7 (ah h8 h9 h10 h11 h12 h13 h14 h15 (ah h16 h17 h18 h19 h20 h21 h22 h23 (aq h24 h25 h26 h27 (ai h28 (ai h29 trivial)))))) (by kernel_rfl)
theorem body_case1_v2o (h0 : prim 4 [.dictS ks] = some (.own (.list names))) (h1 : cmpop .Gt (.int d) (.int 0) = some true) (h2 : callF W0 n 620 [.reg 0, .int 6] μ0 = some (.val (.int w), μ1)) (h3 : cmpop .Eq (.int w) (.int 0) = some false) (h4 : cmpop .Eq (.int w) (.int 1) = some false) (h5 : cmpop .Eq (.int w) (.int 2) = some false) (h6 : cmpop .Eq (.int w) (.int 3) = some false) (h7 : callF W0 n 627 [.reg 0, .list names] μ1 = some (.val (.str x), μ2)) (h8 : callF W0 n 634 [.reg 1, .str (so "c")] μ2 = some (.val (.str c), μ3)) (h9 : getItemM (.dictS ks) (.str x) = some (.str con)) (h10 : cmpop .Is (.str con) .none = some false) (h11 : callF W0 n 620 [.reg 0, .int 5] μ3 = some (.val (.int r), [some s1, some b1, some (.list met), x3, x4])) (h12 : cmpop .Eq (.int r) (.int 0) = some false) (h13 : callF W0 n 59 [.str x] [some s1, some b1, some (.list met), x3, x4] = some (.val (vVar (.str x)), [some s1, some b1, some (.list met), x3, x4])) (h14 : getItemM (.dictS ks) (.str x) = some (.str con)) (h15 : ownDo .append (.list met) [.tuple [.str x, .str con]] = some (.list met1, .none)) (h16 : getItemM (.dictS ks) (.str x) = some (.str con)) (h17 : prim 18 [.dictS [(so "Two", .int 2), (so "None", .int 0)], .str con, .int 1] = some (.val (.int 2))) (h18 : callF W0 n 634 [.reg 1, .str (so "u")] [some s1, some b1, some (.list met1), x3, x4] = some (.val (.str u1), μ5)) (h19 : callF W0 n 634 [.reg 1, .str (so "u")] μ5 = some (.val (.str u2), μ6)) (h20 : prim 8 [.dictS ks] = some (.own (.dictS ks))) (h21 : callF W0 n 627 [.reg 0, .list [.none, .str (so "Two"), .str (so "New")]] μ6 = some (.val v1, μ7)) (h22 : callF W0 n 627 [.reg 0, .list [.none, .str (so "Two"), .str (so "New")]] μ7 = some (.val v2, μ8)) (h23 : prim 8 [.list [.tuple [.str u1, v1], .tuple [.str u2, v2]]] = some (.own (.dictS ks1))) (h24 : ownDo .update (.dictS ks) [.dictS ks1] = some (.dictS ks2, .none)) (h25 : getItemM (.dictS ks) (.str x) = some (.str con)) (h26 : binop .Sub (.int d) (.int 1) = some (.val (.int d1))) (h27 : callF W0 n 644 [.reg 0, .reg 1, .dictS ks2, .int d1, .reg 2] μ8 = some (.val t1, μ9)) (h28 : callF W0 n 242 [.tuple [.str (so "con"), .str con], .list [.str u1, .str u2], t1] μ9 = some (.val (vAlt con [.str u1, .str u2] t1), μ9)) (h29 : callF W0 n 620 [.reg 0, .int 2] μ9 = some (.val (.int r2), μ10)) (h30 : cmpop .Eq (.int r2) (.int 0) = some false) (h31 : callF W0 n 101 [.str (so "int"), .int 0] μ10 = some (.val (vLit 0), μ10)) (h32 : callF W0 n 282 [vVar (.str x), .str c, .list [vAlt con [.str u1, .str u2] t1], vLit 0] μ10 = some (.val (vCase (vVar (.str x)) c [vAlt con [.str u1, .str u2] t1] (vLit 0)), μ10)) : callF W0 (n + 1) 644 [.reg 0, .reg 1, .dictS ks, .int d, .reg 2] μ0 = some (.val (vCase (vVar (.str x)) c [vAlt con [.str u1, .str u2] t1] (vLit 0)), μ10) :=
  call_play mdB [.slot (.own (.list names)), .bool true, .call (.val (.int w)) μ1, .bool false, .bool false, .bool false, .bool false, .call (.val (.str x)) μ2, .call (.val (.str c)) μ3, .val (.str con), .bool false, .call (.val (.int r)) [some s1, some b1, some (.list met), x3, x4], .bool false, .call (.val (vVar (.str x))) [some s1, some b1, some (.list met), x3, x4], .val (.str con), .pair (.list met1) .none, .val (.str con), .slot (.val (.int 2)), .call (.val (.str u1)) μ5, .call (.val (.str u2)) μ6, .slot (.own (.dictS ks)), .call (.val v1) μ7, .call (.val v2) μ8, .slot (.own (.dictS ks1)), .pair (.dictS ks2) .none, .val (.str con), .slot (.val (.int d1)), .call (.val t1) μ9, .call (.val (vAlt con [.str u1, .str u2] t1)) μ9, .call (.val (.int r2)) μ10, .bool false, .call (.val (vLit 0)) μ10, .call (.val (vCase (vVar (.str x)) c [vAlt con [.str u1, .str u2] t1] (vLit 0))) μ10] (ah h0 h1 h2 h3 h4 h5 h6 h7 (ah h8 h9 h10 h11 h12 h13 h14 h15 (ah h16 h17 h18 h19 h20 h21 h22 h23 (ah h24 h25 h26 h27 h28 h29 h30 h31 (ai h32 trivial))))) (by kernel_rfl)
theorem body_case1_v2n (h0 : prim 4 [.dictS ks] = some (.own (.list names))) (h1 : cmpop .Gt (.int d) (.int 0) = some true) (h2 : callF W0 n 620 [.reg 0, .int 6] μ0 = some (.val (.int w), μ1)) (h3 : cmpop .Eq (.int w) (.int 0) = some false) (h4 : cmpop .Eq (.int w) (.int 1) = some false) (h5 : cmpop .Eq (.int w) (.int 2) = some false) (h6 : cmpop .Eq (.int w) (.int 3) = some false) (h7 : callF W0 n 627 [.reg 0, .list names] μ1 = some (.val (.str x), μ2)) (h8 : callF W0 n 634 [.reg 1, .str (so "c")] μ2 = some (.val (.str c), μ3)) (h9 : getItemM (.dictS ks) (.str x) = some (.str con)) (h10 : cmpop .Is (.str con) .none = some false) (h11 : callF W0 n 620 [.reg 0, .int 5] μ3 = some (.val (.int r), [some s1, some b1, some (.list met), x3, x4])) (h12 : cmpop .Eq (.int r) (.int 0) = some false) (h13 : callF W0 n 59 [.str x] [some s1, some b1, some (.list met), x3, x4] = some (.val (vVar (.str x)), [some s1, some b1, some (.list met), x3, x4])) (h14 : getItemM (.dictS ks) (.str x) = some (.str con)) (h15 : ownDo .append (.list met) [.tuple [.str x, .str con]] = some (.list met1, .none)) (h16 : getItemM (.dictS ks) (.str x) = some (.str con)) (h17 : prim 18 [.dictS [(so "Two", .int 2), (so "None", .int 0)], .str con, .int 1] = some (.val (.int 2))) (h18 : callF W0 n 634 [.reg 1, .str (so "u")] [some s1, some b1, some (.list met1), x3, x4] = some (.val (.str u1), μ5)) (h19 : callF W0 n 634 [.reg 1, .str (so "u")] μ5 = some (.val (.str u2), μ6)) (h20 : prim 8 [.dictS ks] = some (.own (.dictS ks))) (h21 : callF W0 n 627 [.reg 0, .list [.none, .str (so "Two"), .str (so "New")]] μ6 = some (.val v1, μ7)) (h22 : callF W0 n 627 [.reg 0, .list [.none, .str (so "Two"), .str (so "New")]] μ7 = some (.val v2, μ8)) (h23 : prim 8 [.list [.tuple [.str u1, v1], .tuple [.str u2, v2]]] = some (.own (.dictS ks1))) (h24 : ownDo .update (.dictS ks) [.dictS ks1] = some (.dictS ks2, .none)) (h25 : getItemM (.dictS ks) (.str x) = some (.str con)) (h26 : binop .Sub (.int d) (.int 1) = some (.val (.int d1))) (h27 : callF W0 n 644 [.reg 0, .reg 1, .dictS ks2, .int d1, .reg 2] μ8 = some (.val t1, μ9)) (h28 : callF W0 n 242 [.tuple [.str (so "con"), .str con], .list [.str u1, .str u2], t1] μ9 = some (.val (vAlt con [.str u1, .str u2] t1), μ9)) (h29 : callF W0 n 620 [.reg 0, .int 2] μ9 = some (.val (.int r2), μ10)) (h30 : cmpop .Eq (.int r2) (.int 0) = some true) (h31 : callF W0 n 282 [vVar (.str x), .str c, .list [vAlt con [.str u1, .str u2] t1], .none] μ10 = some (.val (vCase (vVar (.str x)) c [vAlt con [.str u1, .str u2] t1] .none), μ10)) : callF W0 (n + 1) 644 [.reg 0, .reg 1, .dictS ks, .int d, .reg 2] μ0 = some (.val (vCase (vVar (.str x)) c [vAlt con [.str u1, .str u2] t1] .none), μ10) :=
  call_play mdB [.slot (.own (.list names)), .bool true, .call (.val (.int w)) μ1, .bool false, .bool false, .bool false, .bool false, .call (.val (.str x)) μ2, .call (.val (.str c)) μ3, .val (.str con), .bool false, .call (.val (.int r)) [some s1, some b1, some (.list met), x3, x4], .bool false, .call (.val (vVar (.str x))) [some s1, some b1, some (.list met), x3, x4], .val (.str con), .pair (.list met1) .none, .val (.str con), .slot (.val (.int 2)), .call (.val (.str u1)) μ5, .call (.val (.str u2)) μ6, .slot (.own (.dictS ks)), .call (.val v1) μ7, .call (.val v2) μ8, .slot (.own (.dictS ks1)), .pair (.dictS ks2) .none, .val (.str con), .slot (.val (.int d1)), .call (.val t1) μ9, .call (.val (vAlt con [.str u1, .str u2] t1)) μ9, .call (.val (.int r2)) μ10, .bool true, .call (.val (vCase (vVar (.str x)) c [vAlt con [.str u1, .str u2] t1] .none)) μ10] (ah h0 h1 h2 h3 h4 h5 h6 h7 (ah h8 h9 h10 h11 h12 h13 h14 h15 (ah h16 h17 h18 h19 h20 h21 h22 h23 (ah h24 h25 h26 h27 h28 h29 h30 h31 trivial)))) (by kernel_rfl)
theorem body_case1_a0o (h0 : prim 4 [.dictS ks] = some (.own (.list names))) (h1 : cmpop .Gt (.int d) (.int 0) = some true) (h2 : callF W0 n 620 [.reg 0, .int 6] μ0 = some (.val (.int w), μ1)) (h3 : cmpop .Eq (.int w) (.int 0) = some false) (h4 : cmpop .Eq (.int w) (.int 1) = some false) (h5 : cmpop .Eq (.int w) (.int 2) = some false) (h6 : cmpop .Eq (.int w) (.int 3) = some false) (h7 : callF W0 n 627 [.reg 0, .list names] μ1 = some (.val (.str x), μ2)) (h8 : callF W0 n 634 [.reg 1, .str (so "c")] μ2 = some (.val (.str c), μ3)) (h9 : getItemM (.dictS ks) (.str x) = some (.str con)) (h10 : cmpop .Is (.str con) .none = some false) (h11 : callF W0 n 620 [.reg 0, .int 5] μ3 = some (.val (.int r), μ4)) (h12 : cmpop .Eq (.int r) (.int 0) = some true) (h13 : callF W0 n 59 [.str (so "h")] μ4 = some (.val (vVar (.str (so "h"))), μ4)) (h14 : callF W0 n 59 [.str x] μ4 = some (.val (vVar (.str x)), μ4)) (h15 : callF W0 n 141 [vVar (.str (so "h")), .list [vVar (.str x)]] μ4 = some (.val (vApp (vVar (.str (so "h"))) [vVar (.str x)]), μ4)) (h16 : getItemM (.dictS ks) (.str x) = some (.str con)) (h17 : prim 18 [.dictS [(so "Two", .int 2), (so "None", .int 0)], .str con, .int 1] = some (.val (.int 0))) (h18 : prim 8 [.dictS ks] = some (.own (.dictS ks))) (h20 : ownDo .update (.dictS ks) [.dictS []] = some (.dictS ks2, .none)) (h21 : getItemM (.dictS ks) (.str x) = some (.str con)) (h22 : binop .Sub (.int d) (.int 1) = some (.val (.int d1))) (h23 : callF W0 n 644 [.reg 0, .reg 1, .dictS ks2, .int d1, .reg 2] μ4 = some (.val t1, μ9)) (h24 : callF W0 n 242 [.tuple [.str (so "con"), .str con], .list [], t1] μ9 = some (.val (vAlt con [] t1), μ9)) (h25 : callF W0 n 620 [.reg 0, .int 2] μ9 = some (.val (.int r2), μ10)) (h26 : cmpop .Eq (.int r2) (.int 0) = some false) (h27 : callF W0 n 101 [.str (so "int"), .int 0] μ10 = some (.val (vLit 0), μ10)) (h28 : callF W0 n 282 [vApp (vVar (.str (so "h"))) [vVar (.str x)], .str c, .list [vAlt con [] t1], vLit 0] μ10 = some (.val (vCase (vApp (vVar (.str (so "h"))) [vVar (.str x)]) c [vAlt con [] t1] (vLit 0)), μ10)) : callF W0 (n + 1) 644 [.reg 0, .reg 1, .dictS ks, .int d, .reg 2] μ0 = some (.val (vCase (vApp (vVar (.str (so "h"))) [vVar (.str x)]) c [vAlt con [] t1] (vLit 0)), μ10) :=
  call_play mdB [.slot (.own (.list names)), .bool true, .call (.val (.int w)) μ1, .bool false, .bool false, .bool false, .bool false, .call (.val (.str x)) μ2, .call (.val (.str c)) μ3, .val (.str con), .bool false, .call (.val (.int r)) μ4, .bool true, .call (.val (vVar (.str (so "h")))) μ4, .call (.val (vVar (.str x))) μ4, .call (.val (vApp (vVar (.str (so "h"))) [vVar (.str x)])) μ4, .val (.str con), .slot (.val (.int 0)), .slot (.own (.dictS ks)), .slot (.own (.dictS [])), .pair (.dictS ks2) .none, .val (.str con), .slot (.val (.int d1)), .call (.val t1) μ9, .call (.val (vAlt con [] t1)) μ9, .call (.val (.int r2)) μ10, .bool false, .call (.val (vLit 0)) μ10, .call (.val (vCase (vApp (vVar (.str (so "h"))) [vVar (.str x)]) c [vAlt con [] t1] (vLit 0))) μ10] (ah h0 h1 h2 h3 h4 h5 h6 h7 (ah h8 h9 h10 h11 h12 h13 h14 h15 (ah h16 h17 h18 (show prim 8 [.list []] = some (.own (.dictS [])) from rfl) h20 h21 h22 h23 (aq h24 h25 h26 h27 (ai h28 trivial))))) (by kernel_rfl)
theorem body_case1_a0n (h0 : prim 4 [.dictS ks] = some (.own (.list names))) (h1 : cmpop .Gt (.int d) (.int 0) = some true) (h2 : callF W0 n 620 [.reg 0, .int 6] μ0 = some (.val (.int w), μ1)) (h3 : cmpop .Eq (.int w) (.int 0) = some false) (h4 : cmpop .Eq (.int w) (.int 1) = some false) (h5 : cmpop .Eq (.int w) (.int 2) = some false) (h6 : cmpop .Eq (.int w) (.int 3) = some false) (h7 : callF W0 n 627 [.reg 0, .list names] μ1 = some (.val (.str x), μ2)) (h8 : callF W0 n 634 [.reg 1, .str (so "c")] μ2 = some (.val (.str c), μ3)) (h9 : getItemM (.dictS ks) (.str x) = some (.str con)) (h10 : cmpop .Is (.str con) .none = some false) (h11 : callF W0 n 620 [.reg 0, .int 5] μ3 = some (.val (.int r), μ4)) (h12 : cmpop .Eq (.int r) (.int 0) = some true) (h13 : callF W0 n 59 [.str (so "h")] μ4 = some (.val (vVar (.str (so "h"))), μ4)) (h14 : callF W0 n 59 [.str x] μ4 = some (.val (vVar (.str x)), μ4)) (h15 : callF W0 n 141 [vVar (.str (so "h")), .list [vVar (.str x)]] μ4 = some (.val (vApp (vVar (.str (so "h"))) [vVar (.str x)]), μ4)) (h16 : getItemM (.dictS ks) (.str x) = some (.str con)) (h17 : prim 18 [.dictS [(so "Two", .int 2), (so "None", .int 0)], .str con, .int 1] = some (.val (.int 0))) (h18 : prim 8 [.dictS ks] = some (.own (.dictS ks))) (h20 : ownDo .update (.dictS ks) [.dictS []] = some (.dictS ks2, .none)) (h21 : getItemM (.dictS ks) (.str x) = some (.str con)) (h22 : binop .Sub (.int d) (.int 1) = some (.val (.int d1))) (h23 : callF W0 n 644 [.reg 0, .reg 1, .dictS ks2, .int d1, .reg 2] μ4 = some (.val t1, μ9)) (h24 : callF W0 n 242 [.tuple [.str (so "con"), .str con], .list [], t1] μ9 = some (.val (vAlt con [] t1), μ9)) (h25 : callF W0 n 620 [.reg 0, .int 2] μ9 = some (.val (.int r2), μ10)) (h26 : cmpop .Eq (.int r2) (.int 0) = some true) (h27 : callF W0 n 282 [vApp (vVar (.str (so "h"))) [vVar (.str x)], .str c, .list [vAlt con [] t1], .none] μ10 = some (.val (vCase (vApp (vVar (.str (so "h"))) [vVar (.str x)]) c [vAlt con [] t1] .none), μ10)) : callF W0 (n + 1) 644 [.reg 0, .reg 1, .dictS ks, .int d, .reg 2] μ0 = some (.val (vCase (vApp (vVar (.str (so "h"))) [vVar (.str x)]) c [vAlt con [] t1] .none), μ10) :=
  call_play mdB [.slot (.own (.list names)), .bool true, .call (.val (.int w)) μ1, .bool false, .bool false, .bool false, .bool false, .call (.val (.str x)) μ2, .call (.val (.str c)) μ3, .val (.str con), .bool false, .call (.val (.int r)) μ4, .bool true, .call (.val (vVar (.str (so "h")))) μ4, .call (.val (vVar (.str x))) μ4, .call (.val (vApp (vVar (.str (so "h"))) [vVar (.str x)])) μ4, .val (.str con), .slot (.val (.int 0)), .slot (.own (.dictS ks)), .slot (.own (.dictS [])), .pair (.dictS ks2) .none, .val (.str con), .slot (.val (.int d1)), .call (.val t1) μ9, .call (.val (vAlt con [] t1)) μ9, .call (.val (.int r2)) μ10, .bool true, .call (.val (vCase (vApp (vVar (.str (so "h"))) [vVar (.str x)]) c [vAlt con [] t1] .none)) μ10] (ah h0 h1 h2 h3 h4 h5 h6 h7 (ah h8 h9 h10 h11 h12 h13 h14 h15 (ah h16 h17 h18 (show prim 8 [.list []] = some (.own (.dictS [])) from rfl) h20 h21 h22 h23 (aq h24 h25 h26 h27 trivial)))) (by kernel_rfl)
theorem body_case1_a1o (h0 : prim 4 [.dictS ks] = some (.own (.list names))) (h1 : cmpop .Gt (.int d) (.int 0) = some true) (h2 : callF W0 n 620 [.reg 0, .int 6] μ0 = some (.val (.int w), μ1)) (h3 : cmpop .Eq (.int w) (.int 0) = some false) (h4 : cmpop .Eq (.int w) (.int 1) = some false) (h5 : cmpop .Eq (.int w) (.int 2) = some false) (h6 : cmpop .Eq (.int w) (.int 3) = some false) (h7 : callF W0 n 627 [.reg 0, .list names] μ1 = some (.val (.str x), μ2)) (h8 : callF W0 n 634 [.reg 1, .str (so "c")] μ2 = some (.val (.str c), μ3)) (h9 : getItemM (.dictS ks) (.str x) = some (.str con)) (h10 : cmpop .Is (.str con) .none = some false) (h11 : callF W0 n 620 [.reg 0, .int 5] μ3 = some (.val (.int r), μ4)) (h12 : cmpop .Eq (.int r) (.int 0) = some true) (h13 : callF W0 n 59 [.str (so "h")] μ4 = some (.val (vVar (.str (so "h"))), μ4)) (h14 : callF W0 n 59 [.str x] μ4 = some (.val (vVar (.str x)), μ4)) (h15 : callF W0 n 141 [vVar (.str (so "h")), .list [vVar (.str x)]] μ4 = some (.val (vApp (vVar (.str (so "h"))) [vVar (.str x)]), μ4)) (h16 : getItemM (.dictS ks) (.str x) = some (.str con)) (h17 : prim 18 [.dictS [(so "Two", .int 2), (so "None", .int 0)], .str con, .int 1] = some (.val (.int 1))) (h18 : callF W0 n 634 [.reg 1, .str (so "u")] μ4 = some (.val (.str u1), μ5)) (h19 : prim 8 [.dictS ks] = some (.own (.dictS ks))) (h20 : callF W0 n 627 [.reg 0, .list [.none, .str (so "Two"), .str (so "New")]] μ5 = some (.val v1, μ7)) (h21 : prim 8 [.list [.tuple [.str u1, v1]]] = some (.own (.dictS ks1))) (h22 : ownDo .update (.dictS ks) [.dictS ks1] = some (.dictS ks2, .none)) (h23 : getItemM (.dictS ks) (.str x) = some (.str con)) (h24 : binop .Sub (.int d) (.int 1) = some (.val (.int d1))) (h25 : callF W0 n 644 [.reg 0, .reg 1, .dictS ks2, .int d1, .reg 2] μ7 = some (.val t1, μ9)) (h26 : callF W0 n 242 [.tuple [.str (so "con"), .str con], .list [.str u1], t1] μ9 = some (.val (vAlt con [.str u1] t1), μ9)) (h27 : callF W0 n 620 [.reg 0, .int 2] μ9 = some (.val (.int r2), μ10)) (h28 : cmpop .Eq (.int r2) (.int 0) = some false) (h29 : callF W0 n 101 [.str (so "int"), .int 0] μ10 = some (.val (vLit 0), μ10)) (h30 : callF W0 n 282 [vApp (vVar (.str (so "h"))) [vVar (.str x)], .str c, .list [vAlt con [.str u1] t1], vLit 0] μ10 = some (.val (vCase (vApp (vVar (.str (so "h"))) [vVar (.str x)]) c [vAlt con [.str u1] t1] (vLit 0)), μ10)) : callF W0 (n + 1) 644 [.reg 0, .reg 1, .dictS ks, .int d, .reg 2] μ0 = some (.val (vCase (vApp (vVar (.str (so "h"))) [vVar (.str x)]) c [vAlt con [.str u1] t1] (vLit 0)), μ10) :=
  call_play mdB [.slot (.own (.list names)), .bool true, .call (.val (.int w)) μ1, .bool false, .bool false, .bool false, .bool false, .call (.val (.str x)) μ2, .call (.val (.str c)) μ3, .val (.str con), .bool false, .call (.val (.int r)) μ4, .bool true, .call (.val (vVar (.str (so "h")))) μ4, .call (.val (vVar (.str x))) μ4, .call (.val (vApp (vVar (.str (so "h"))) [vVar (.str x)])) μ4, .val (.str con), .slot (.val (.int 1)), .call (.val (.str u1)) μ5, .slot (.own (.dictS ks)), .call (.val v1) μ7, .slot (.own (.dictS ks1)), .pair (.dictS ks2) .none, .val (.str con), .slot (.val (.int d1)), .call (.val t1) μ9, .call (.val (vAlt con [.str u1] t1)) μ9, .call (.val (.int r2)) μ10, .bool false, .call (.val (vLit 0)) μ10, .call (.val (vCase (vApp (vVar (.str (so "h"))) [vVar (.str x)]) c [vAlt con [.str u1] t1] (vLit 0))) μ10] (ah h0 h1 h2 h3 h4 h5 h6 h7 (ah h8 h9 h10 h11 h12 h13 h14 h15 (ah h16 h17 h18 h19 h20 h21 h22 h23 (aq h24 h25 h26 h27 (ai h28 (ai h29 (ai h30 trivial))))))) (by kernel_rfl)
theorem body_case1_a1n (h0 : prim 4 [.dictS ks] = some (.own (.list names))) (h1 : cmpop .Gt (.int d) (.int 0) = some true) (h2 : callF W0 n 620 [.reg 0, .int 6] μ0 = some (.val (.int w), μ1)) (h3 : cmpop .Eq (.int w) (.int 0) = some false) (h4 : cmpop .Eq (.int w) (.int 1) = some false) (h5 : cmpop .Eq (.int w) (.int 2) = some false) (h6 : cmpop .Eq (.int w) (.int 3) = some false) (h7 : callF W0 n 627 [.reg 0, .list names] μ1 = some (.val (.str x), μ2)) (h8 : callF W0 n 634 [.reg 1, .str (so "c")] μ2 = some (.val (.str c), μ3)) (h9 : getItemM (.dictS ks) (.str x) = some (.str con)) (h10 : cmpop .Is (.str con) .none = some false) (h11 : callF W0 n 620 [.reg 0, .int 5] μ3 = some (.val (.int r), μ4)) (h12 : cmpop .Eq (.int r) (.int 0) = some true) (h13 : callF W0 n 59 [.str (so "h")] μ4 = some (.val (vVar (.str (so "h"))), μ4)) (h14 : callF W0 n 59 [.str x] μ4 = some (.val (vVar (.str x)), μ4)) (h15 : callF W0 n 141 [vVar (.str (so "h")), .list [vVar (.str x)]] μ4 = some (.val (vApp (vVar (.str (so "h"))) [vVar (.str x)]), μ4)) (h16 : getItemM (.dictS ks) (.str x) = some (.str con)) (h17 : prim 18 [.dictS [(so "Two", .int 2), (so "None", .int 0)], .str con, .int 1] = some (.val (.int 1))) (h18 : callF W0 n 634 [.reg 1, .str (so "u")] μ4 = some (.val (.str u1), μ5)) (h19 : prim 8 [.dictS ks] = some (.own (.dictS ks))) (h20 : callF W0 n 627 [.reg 0, .list [.none, .str (so "Two"), .str (so "New")]] μ5 = some (.val v1, μ7)) (h21 : prim 8 [.list [.tuple [.str u1, v1]]] = some (.own (.dictS ks1))) (h22 : ownDo .update (.dictS ks) [.dictS ks1] = some (.dictS ks2, .none)) (h23 : getItemM (.dictS ks) (.str x) = some (.str con)) (h24 : binop .Sub (.int d) (.int 1) = some (.val (.int d1))) (h25 : callF W0 n 644 [.reg 0, .reg 1, .dictS ks2, .int d1, .reg 2] μ7 = some (.val t1, μ9)) (h26 : callF W0 n 242 [.tuple [.str (so "con"), .str con], .list [.str u1], t1] μ9 = some (.val (vAlt con [.str u1] t1), μ9)) (h27 : callF W0 n 620 [.reg 0, .int 2] μ9 = some (.val (.int r2), μ10)) (h28 : cmpop .Eq (.int r2) (.int 0) = some true) (h29 : callF W0 n 282 [vApp (vVar (.str (so "h"))) [vVar (.str x)], .str c, .list [vAlt con [.str u1] t1], .none] μ10 = some (.val (vCase (vApp (vVar (.str (so "h"))) [vVar (.str x)]) c [vAlt con [.str u1] t1] .none), μ10)) : callF W0 (n + 1) 644 [.reg 0, .reg 1, .dictS ks, .int d, .reg 2] μ0 = some (.val (vCase (vApp (vVar (.str (so "h"))) [vVar (.str x)]) c [vAlt con [.str u1] t1] .none), μ10) :=
  call_play mdB [.slot (.own (.list names)), .bool true, .call (.val (.int w)) μ1, .bool false, .bool false, .bool false, .bool false, .call (.val (.str x)) μ2, .call (.val (.str c)) μ3, .val (.str con), .bool false, .call (.val (.int r)) μ4, .bool true, .call (.val (vVar (.str (so "h")))) μ4, .call (.val (vVar (.str x))) μ4, .call (.val (vApp (vVar (.str (so "h"))) [vVar (.str x)])) μ4, .val (.str con), .slot (.val (.int 1)), .call (.val (.str u1)) μ5, .slot (.own (.dictS ks)), .call (.val v1) μ7, .slot (.own (.dictS ks1)), .pair (.dictS ks2) .none, .val (.str con), .slot (.val (.int d1)), .call (.val t1) μ9, .call (.val (vAlt con [.str u1] t1)) μ9, .call (.val (.int r2)) μ10, .bool true, .call (.val (vCase (vApp (vVar (.str (so "h"))) [vVar (.str x)]) c [vAlt con [.str u1] t1] .none)) μ10] (ah h0 h1 h2 h3 h4 h5 h6 h7 (ah h8 h9 h10 h11 h12 h13 h14 h15 (ah h16 h17 h18 h19 h20 h21 h22 h23 (aq h24 h25 h26 h27 (ai h28 (ai h29 trivial)))))) (by kernel_rfl)
theorem body_case1_a2o (h0 : prim 4 [.dictS ks] = some (.own (.list names))) (h1 : cmpop .Gt (.int d) (.int 0) = some true) (h2 : callF W0 n 620 [.reg 0, .int 6] μ0 = some (.val (.int w), μ1)) (h3 : cmpop .Eq (.int w) (.int 0) = some false) (h4 : cmpop .Eq (.int w) (.int 1) = some false) (h5 : cmpop .Eq (.int w) (.int 2) = some false) (h6 : cmpop .Eq (.int w) (.int 3) = some false) (h7 : callF W0 n 627 [.reg 0, .list names] μ1 = some (.val (.str x), μ2)) (h8 : callF W0 n 634 [.reg 1, .str (so "c")] μ2 = some (.val (.str c), μ3)) (h9 : getItemM (.dictS ks) (.str x) = some (.str con)) (h10 : cmpop .Is (.str con) .none = some false) (h11 : callF W0 n 620 [.reg 0, .int 5] μ3 = some (.val (.int r), μ4)) (h12 : cmpop .Eq (.int r) (.int 0) = some true) (h13 : callF W0 n 59 [.str (so "h")] μ4 = some (.val (vVar (.str (so "h"))), μ4)) (h14 : callF W0 n 59 [.str x] μ4 = some (.val (vVar (.str x)), μ4)) (h15 : callF W0 n 141 [vVar (.str (so "h")), .list [vVar (.str x)]] μ4 = some (.val (vApp (vVar (.str (so "h"))) [vVar (.str x)]), μ4)) (h16 : getItemM (.dictS ks) (.str x) = some (.str con)) (h17 : prim 18 [.dictS [(so "Two", .int 2), (so "None", .int 0)], .str con, .int 1] = some (.val (.int 2))) (h18 : callF W0 n 634 [.reg 1, .str (so "u")] μ4 = some (.val (.str u1), μ5)) (h19 : callF W0 n 634 [.reg 1, .str (so "u")] μ5 = some (.val (.str u2), μ6)) (h20 : prim 8 [.dictS ks] = some (.own (.dictS ks))) (h21 : callF W0 n 627 [.reg 0, .list [.none, .str (so "Two"), .str (so "New")]] μ6 = some (.val v1, μ7)) (h22 : callF W0 n 627 [.reg 0, .list [.none, .str (so "Two"), .str (so "New")]] μ7 = some (.val v2, μ8)) (h23 : prim 8 [.list [.tuple [.str u1, v1], .tuple [.str u2, v2]]] = some (.own (.dictS ks1))) (h24 : ownDo .update (.dictS ks) [.dictS ks1] = some (.dictS ks2, .none)) (h25 : getItemM (.dictS ks) (.str x) = some (.str con)) (h26 : binop .Sub (.int d) (.int 1) = some (.val (.int d1))) (h27 : callF W0 n 644 [.reg 0, .reg 1, .dictS ks2, .int d1, .reg 2] μ8 = some (.val t1, μ9)) (h28 : callF W0 n 242 [.tuple [.str (so "con"), .str con], .list [.str u1, .str u2], t1] μ9 = some (.val (vAlt con [.str u1, .str u2] t1), μ9)) (h29 : callF W0 n 620 [.reg 0, .int 2] μ9 = some (.val (.int r2), μ10)) (h30 : cmpop .Eq (.int r2) (.int 0) = some false) (h31 : callF W0 n 101 [.str (so "int"), .int 0] μ10 = some (.val (vLit 0), μ10)) (h32 : callF W0 n 282 [vApp (vVar (.str (so "h"))) [vVar (.str x)], .str c, .list [vAlt con [.str u1, .str u2] t1], vLit 0] μ10 = some (.val (vCase (vApp (vVar (.str (so "h"))) [vVar (.str x)]) c [vAlt con [.str u1, .str u2] t1] (vLit 0)), μ10)) : callF W0 (n + 1) 644 [.reg 0, .reg 1, .dictS ks, .int d, .reg 2] μ0 = some (.val (vCase (vApp (vVar (.str (so "h"))) [vVar (.str x)]) c [vAlt con [.str u1, .str u2] t1] (vLit 0)), μ10) :=
  call_play mdB [.slot (.own (.list names)), .bool true, .call (.val (.int w)) μ1, .bool false, .bool false, .bool false, .bool false, .call (.val (.str x)) μ2, .call (.val (.str c)) μ3, .val (.str con), .bool false, .call (.val (.int r)) μ4, .bool true, .call (.val (vVar (.str (so "h")))) μ4, .call (.val (vVar (.str x))) μ4, .call (.val (vApp (vVar (.str (so "h"))) [vVar (.str x)])) μ4, .val (.str con), .slot (.val (.int 2)), .call (.val (.str u1)) μ5, .call (.val (.str u2)) μ6, .slot (.own (.dictS ks)), .call (.val v1) μ7, .call (.val v2) μ8, .slot (.own (.dictS ks1)), .pair (.dictS ks2) .none, .val (.str con), .slot (.val (.int d1)), .call (.val t1) μ9, .call (.val (vAlt con [.str u1, .str u2] t1)) μ9, .call (.val (.int r2)) μ10, .bool false, .call (.val (vLit 0)) μ10, .call (.val (vCase (vApp (vVar (.str (so "h"))) [vVar (.str x)]) c [vAlt con [.str u1, .str u2] t1] (vLit 0))) μ10] (ah h0 h1 h2 h3 h4 h5 h6 h7 (ah h8 h9 h10 h11 h12 h13 h14 h15 (ah h16 h17 h18 h19 h20 h21 h22 h23 (ah h24 h25 h26 h27 h28 h29 h30 h31 (ai h32 trivial))))) (by kernel_rfl)
theorem body_case1_a2n (h0 : prim 4 [.dictS ks] = some (.own (.list names))) (h1 : cmpop .Gt (.int d) (.int 0) = some true) (h2 : callF W0 n 620 [.reg 0, .int 6] μ0 = some (.val (.int w), μ1)) (h3 : cmpop .Eq (.int w) (.int 0) = some false) (h4 : cmpop .Eq (.int w) (.int 1) = some false) (h5 : cmpop .Eq (.int w) (.int 2) = some false) (h6 : cmpop .Eq (.int w) (.int 3) = some false) (h7 : callF W0 n 627 [.reg 0, .list names] μ1 = some (.val (.str x), μ2)) (h8 : callF W0 n 634 [.reg 1, .str (so "c")] μ2 = some (.val (.str c), μ3)) (h9 : getItemM (.dictS ks) (.str x) = some (.str con)) (h10 : cmpop .Is (.str con) .none = some false) (h11 : callF W0 n 620 [.reg 0, .int 5] μ3 = some (.val (.int r), μ4)) (h12 : cmpop .Eq (.int r) (.int 0) = some true) (h13 : callF W0 n 59 [.str (so "h")] μ4 = some (.val (vVar (.str (so "h"))), μ4)) (h14 : callF W0 n 59 [.str x] μ4 = some (.val (vVar (.str x)), μ4)) (h15 : callF W0 n 141 [vVar (.str (so "h")), .list [vVar (.str x)]] μ4 = some (.val (vApp (vVar (.str (so "h"))) [vVar (.str x)]), μ4)) (h16 : getItemM (.dictS ks) (.str x) = some (.str con)) (h17 : prim 18 [.dictS [(so "Two", .int 2), (so "None", .int 0)], .str con, .int 1] = some (.val (.int 2))) (h18 : callF W0 n 634 [.reg 1, .str (so "u")] μ4 = some (.val (.str u1), μ5)) (h19 : callF W0 n 634 [.reg 1, .str (so "u")] μ5 = some (.val (.str u2), μ6)) (h20 : prim 8 [.dictS ks] = some (.own (.dictS ks))) (h21 : callF W0 n 627 [.reg 0, .list [.none, .str (so "Two"), .str (so "New")]] μ6 = some (.val v1, μ7)) (h22 : callF W0 n 627 [.reg 0, .list [.none, .str (so "Two"), .str (so "New")]] μ7 = some (.val v2, μ8)) (h23 : prim 8 [.list [.tuple [.str u1, v1], .tuple [.str u2, v2]]] = some (.own (.dictS ks1))) (h24 : ownDo .update (.dictS ks) [.dictS ks1] = some (.dictS ks2, .none)) (h25 : getItemM (.dictS ks) (.str x) = some (.str con)) (h26 : binop .Sub (.int d) (.int 1) = some (.val (.int d1))) (h27 : callF W0 n 644 [.reg 0, .reg 1, .dictS ks2, .int d1, .reg 2] μ8 = some (.val t1, μ9)) (h28 : callF W0 n 242 [.tuple [.str (so "con"), .str con], .list [.str u1, .str u2], t1] μ9 = some (.val (vAlt con [.str u1, .str u2] t1), μ9)) (h29 : callF W0 n 620 [.reg 0, .int 2] μ9 = some (.val (.int r2), μ10)) (h30 : cmpop .Eq (.int r2) (.int 0) = some true) (h31 : callF W0 n 282 [vApp (vVar (.str (so "h"))) [vVar (.str x)], .str c, .list [vAlt con [.str u1, .str u2] t1], .none] μ10 = some (.val (vCase (vApp (vVar (.str (so "h"))) [vVar (.str x)]) c [vAlt con [.str u1, .str u2] t1] .none), μ10)) : callF W0 (n + 1) 644 [.reg 0, .reg 1, .dictS ks, .int d, .reg 2] μ0 = some (.val (vCase (vApp (vVar (.str (so "h"))) [vVar (.str x)]) c [vAlt con [.str u1, .str u2] t1] .none), μ10) :=
  call_play mdB [.slot (.own (.list names)), .bool true, .call (.val (.int w)) μ1, .bool false, .bool false, .bool false, .bool false, .call (.val (.str x)) μ2, .call (.val (.str c)) μ3, .val (.str con), .bool false, .call (.val (.int r)) μ4, .bool true, .call (.val (vVar (.str (so "h")))) μ4, .call (.val (vVar (.str x))) μ4, .call (.val (vApp (vVar (.str (so "h"))) [vVar (.str x)])) μ4, .val (.str con), .slot (.val (.int 2)), .call (.val (.str u1)) μ5, .call (.val (.str u2)) μ6, .slot (.own (.dictS ks)), .call (.val v1) μ7, .call (.val v2) μ8, .slot (.own (.dictS ks1)), .pair (.dictS ks2) .none, .val (.str con), .slot (.val (.int d1)), .call (.val t1) μ9, .call (.val (vAlt con [.str u1, .str u2] t1)) μ9, .call (.val (.int r2)) μ10, .bool true, .call (.val (vCase (vApp (vVar (.str (so "h"))) [vVar (.str x)]) c [vAlt con [.str u1, .str u2] t1] .none)) μ10] (ah h0 h1 h2 h3 h4 h5 h6 h7 (ah h8 h9 h10 h11 h12 h13 h14 h15 (ah h16 h17 h18 h19 h20 h21 h22 h23 (ah h24 h25 h26 h27 h28 h29 h30 h31 trivial)))) (by kernel_rfl)
end
end Mini
namespace Mini
noncomputable def md1 : P.Md := { md0 with cmp := fun _ => true, bin := true }
noncomputable def md2 : P.Md := { md0 with get := true, prim := fun _ => true, bin := true }
section
variable {n : Nat} {a b m top q0 q1 q2 q3 q4 q5 q6 q7 len : Int} {met xs : List V} {x3 x4 : Option V} {v : V} {μ0 μ1 : Mu} {base txt res : Str}
theorem take_pos (h0 : cmpop .Gt (.int a) (.int 0) = some true) (h1 : binop .Mod (.int a) (.int top) = some (.val (.int q0))) (h2 : binop .FloorDiv (.int a) (.int top) = some (.val (.int q1))) : callF W0 (n + 1) 620 [.reg 0, .int top] (muS a b m met x3 x4) = some (.val (.int q0), muS q1 b m met x3 x4) :=
  call_play md1 [.bool true, .slot (.val (.int q0)), .slot (.val (.int q1))] (ai h0 (ai h1 (ai h2 trivial))) (by kernel_rfl)
theorem take_neg (h0 : cmpop .Gt (.int a) (.int 0) = some false) (h1 : binop .Mult (.int b) (.int 39373) = some (.val (.int q0))) (h2 : binop .Add (.int q0) (.int 7) = some (.val (.int q1))) (h3 : binop .Mod (.int q1) (.int 2147483647) = some (.val (.int q2))) (h4 : binop .Mult (.int q2) (.int q2) = some (.val (.int q3))) (h5 : binop .Mod (.int q3) (.int 2147483629) = some (.val (.int q4))) (h6 : binop .FloorDiv (.int q4) (.int 32) = some (.val (.int q5))) (h7 : binop .Mod (.int q5) (.int top) = some (.val (.int q6))) : callF W0 (n + 1) 620 [.reg 0, .int top] (muS a b m met x3 x4) = some (.val (.int q6), muS a q2 m met x3 x4) :=
  call_play md1 [.bool false, .slot (.val (.int q0)), .slot (.val (.int q1)), .slot (.val (.int q2)), .slot (.val (.int q3)), .slot (.val (.int q4)), .slot (.val (.int q5)), .slot (.val (.int q6))] (ah h0 h1 h2 h3 h4 h5 h6 h7 trivial) (by kernel_rfl)
theorem one_road (h0 : prim 0 [.list xs] = some (.val (.int len))) (h1 : callF W0 n 620 [.reg 0, .int len] μ0 = some (.val (.int q0), μ1)) (h2 : getItemM (.list xs) (.int q0) = some v) : callF W0 (n + 1) 627 [.reg 0, .list xs] μ0 = some (.val v, μ1) :=
  call_play md2 [.slot (.val (.int len)), .call (.val (.int q0)) μ1, .val v] (ai h0 (ai h1 (ai h2 trivial))) (by kernel_rfl)
theorem new_road (h0 : getItemM (.dictS [(so "many", .int m)]) (.str (so "many")) = some (.int m)) (h1 : binop .Add (.int m) (.int 1) = some (.val (.int q0))) (h2 : getItemM (.dictS [(so "many", .int q0)]) (.str (so "many")) = some (.int q0)) (h3 : prim 9 [.int q0] = some (.val (.str txt))) (h4 : binop .Add (.str base) (.str txt) = some (.val (.str res))) : callF W0 (n + 1) 634 [.reg 1, .str base] (muS a b m met x3 x4) = some (.val (.str res), muS a b q0 met x3 x4) :=
  call_play md2 [.val (.int m), .slot (.val (.int q0)), .val (.int q0), .slot (.val (.str txt)), .slot (.val (.str res))] (aq h0 h1 h2 h3 (ai h4 trivial)) (by kernel_rfl)
end
end Mini
namespace Mini
section
variable {n : Nat} {μ : Mu}
theorem mk_Var (x : V) : callF W0 (n + 1) 59 [x] μ = some (.val (.inst 59 [(so "name", x)]), μ) := by kernel_rfl
theorem mk_Lit (k v : V) : callF W0 (n + 1) 101 [k, v] μ = some (.val (.inst 101 [(so "kind", k), (so "value", v)]), μ) := by kernel_rfl
theorem mk_App (f xs : V) : callF W0 (n + 1) 141 [f, xs] μ = some (.val (.inst 141 [(so "fun", f), (so "args", xs)]), μ) := by kernel_rfl
theorem mk_Lam (p b : V) : callF W0 (n + 1) 183 [p, b] μ = some (.val (.inst 183 [(so "params", p), (so "body", b)]), μ) := by kernel_rfl
theorem mk_Let (p b r : V) : callF W0 (n + 1) 221 [p, b, r] μ = some (.val (.inst 221 [(so "binds", p), (so "body", b), (so "is_rec", r)]), μ) := by kernel_rfl
theorem mk_Alt (p b r : V) : callF W0 (n + 1) 242 [p, b, r] μ = some (.val (.inst 242 [(so "key", p), (so "names", b), (so "body", r)]), μ) := by kernel_rfl
theorem mk_Case (p b r o : V) : callF W0 (n + 1) 282 [p, b, r, o] μ = some (.val (.inst 282 [(so "value", p), (so "name", b), (so "alts", r), (so "other", o)]), μ) := by kernel_rfl
theorem mk_Con (p b : V) : callF W0 (n + 1) 322 [p, b] μ = some (.val (.inst 322 [(so "name", p), (so "args", b)]), μ) := by kernel_rfl
theorem mk_Split (p b r : V) : callF W0 (n + 1) 383 [p, b, r] μ = some (.val (.inst 383 [(so "place", p), (so "con", b), (so "fields", r)]), μ) := by kernel_rfl
theorem mk_Sig (p b r : V) : callF W0 (n + 1) 558 [p, b, r] μ = some (.val (.inst 558 [(so "flags", p), (so "free", b), (so "diverges", r)]), μ) := by kernel_rfl
end
end Mini
namespace Mini
theorem gdo_t {α : Type} {c : Bool} {o : Option α} (h : c = true) : gdo c o = o := by rw [h]; rfl
theorem fits_of {n : Nat} (h : n ≤ 16000000) : fits n = true := Nat.ble_eq_true_of_le h
theorem small64 {i : Int} (h0 : 0 ≤ i) (h1 : i ≤ 10000000000) : Nat.blt i.natAbs (2 ^ 64) = true := Nat.ble_eq_true_of_le (by omega)
theorem op_mod {i j : Int} (h : 0 < j) : binop .Mod (.int i) (.int j) = some (.val (.int (i % j))) := gdo_t (decide_eq_true h)
theorem op_div {i j : Int} (h : 0 < j) (h2 : j < 1073741824) : binop .FloorDiv (.int i) (.int j) = some (.val (.int (i / j))) := (gdo_t (decide_eq_true h)).trans (gdo_t (decide_eq_true h2))
theorem op_mul {i j : Int} (h : (Nat.blt i.natAbs (2 ^ 64) || Nat.blt j.natAbs (2 ^ 64)) = true) : binop .Mult (.int i) (.int j) = some (.val (.int (i * j))) := gdo_t h
theorem op_gt {i j : Int} {b : Bool} (h : decide (i > j) = b) : cmpop .Gt (.int i) (.int j) = some b := congrArg some h
theorem op_cat {s t : Str} (h : s.length + t.length ≤ 16000000) : binop .Add (.str s) (.str t) = some (.val (.str (s ++ t))) := congrArg (Option.map fun r : Str => Slot.val (.str r)) (gdo_t (o := some (s ++ t)) (fits_of h))
theorem op_len {xs : List V} (h : xs.length ≤ 16000000) : prim 0 [.list xs] = some (.val (.int xs.length)) := gdo_t (fits_of h)
theorem op_str {i : Int} (h0 : 0 ≤ i) (h1 : i ≤ 10000000000) : prim 9 [.int i] = some (.val (.str (decS i))) := gdo_t (small64 h0 h1)
theorem op_at {xs : List V} {i : Int} {v : V} (h0 : 0 ≤ i) (h1 : i.toNat ≤ 16000000) (h : nth xs i.toNat = some v) : getItemM (.list xs) (.int i) = some v := ((gdo_t (decide_eq_true h0)).trans (gdo_t (fits_of h1))).trans h
inductive Took (n : Nat) (a b m top : Int) (met : List V) (x3 x4 : Option V) : Prop
  | mk (r a' b' : Int) (lo : 0 ≤ r) (hi : r < top) (e : callF W0 (n + 1) 620 [.reg 0, .int top] (muS a b m met x3 x4) = some (.val (.int r), muS a' b' m met x3 x4)) : Took n a b m top met x3 x4
theorem take_spec {n : Nat} (a b m top : Int) (met : List V) (x3 x4 : Option V) (ht : 0 < top) (ht2 : top < 1073741824) : Took n a b m top met x3 x4 := by
  by_cases h : 0 < a
  · exact ⟨a % top, a / top, b, Int.emod_nonneg _ (Int.ne_of_gt ht), Int.emod_lt_of_pos _ ht, take_pos (op_gt (decide_eq_true h)) (op_mod ht) (op_div ht ht2)⟩
  · have h1 := Int.emod_nonneg (b * 39373 + 7) (show (2147483647 : Int) ≠ 0 by decide)
    have h2 := Int.emod_lt_of_pos (b * 39373 + 7) (show (0 : Int) < 2147483647 by decide)
    exact ⟨_, a, _, Int.emod_nonneg _ (Int.ne_of_gt ht), Int.emod_lt_of_pos _ ht, take_neg (op_gt (decide_eq_false h)) (op_mul ((congrArg _ (show Nat.blt (39373 : Int).natAbs (2 ^ 64) = true by decide)).trans (Bool.or_true _))) rfl (op_mod (by decide)) (op_mul ((congrArg (· || _) (small64 h1 (Int.le_of_lt (Int.lt_trans h2 (by decide))))).trans (Bool.true_or _))) (op_mod (by decide)) (op_div (by decide) (by decide)) (op_mod ht)⟩
theorem nth_of : ∀ (xs : List V) (i : Nat), i < xs.length → ∃ v, nth xs i = some v ∧ v ∈ xs
  | [], _, h => absurd h (Nat.not_lt_zero _)
  | v :: _, 0, _ => ⟨v, rfl, List.mem_cons_self⟩
  | _ :: r, i + 1, h => (nth_of r i (Nat.lt_of_succ_lt_succ h)).imp fun _ q => ⟨q.1, List.mem_cons_of_mem _ q.2⟩
inductive Chose (n : Nat) (a b m : Int) (met xs : List V) (x3 x4 : Option V) : Prop
  | mk (v : V) (a' b' : Int) (mem : v ∈ xs) (e : callF W0 (n + 2) 627 [.reg 0, .list xs] (muS a b m met x3 x4) = some (.val v, muS a' b' m met x3 x4)) : Chose n a b m met xs x3 x4
theorem one_spec {n : Nat} (a b m : Int) (met xs : List V) (x3 x4 : Option V) (h0 : 0 < xs.length) (h1 : xs.length ≤ 1000) : Chose n a b m met xs x3 x4 := by
  obtain ⟨r, a', b', r0, r1, h⟩ := take_spec (n := n) a b m xs.length met x3 x4 (by omega) (by omega)
  have hr : r.toNat < xs.length := by omega
  obtain ⟨v, hv, hm⟩ := nth_of xs r.toNat hr
  exact ⟨v, a', b', hm, one_road (op_len (Nat.le_trans h1 (by decide))) h (op_at r0 (Nat.le_trans (Nat.le_of_lt hr) (Nat.le_trans h1 (by decide))) hv)⟩
noncomputable def nm (base : Str) (i : Int) : Str := base ++ decS i
theorem new_spec {n : Nat} (a b m : Int) (met : List V) (x3 x4 : Option V) (base : Str) (h0 : 0 ≤ m) (h1 : m ≤ 1000) (hl : base.length + (decS (m + 1)).length ≤ 100) :
    callF W0 (n + 1) 634 [.reg 1, .str base] (muS a b m met x3 x4) = some (.val (.str (nm base (m + 1))), muS a b (m + 1) met x3 x4) :=
  new_road rfl rfl rfl (op_str (by omega) (by omega)) (op_cat (Nat.le_trans hl (by decide)))
end Mini
namespace Mini
noncomputable def mdT : P.Md := { md0 with bin := true, prim := fun n => n == 15 }
section
variable {n : Nat} {k1 k2 k3 : Addr} {f1 f2 f3 : List (Str × V)} {ps : List V} {μ0 : Mu} {x x0 x1 x2 x3 x4 x5 x6 x7 c con w s0 s1 s2 s3 s4 s5 s6 s7 s8 s9 t0 t1 t2 t3 : Str}
theorem ct_var (h0 : callF W0 n 465 [.str x] μ0 = some (.val (.str s0), μ0)) : callF W0 (n + 1) 513 [vVar (.str x)] μ0 = some (.val (.str s0), μ0) :=
  call_play mdT [.call (.val (.str s0)) μ0] (ai h0 trivial) (by kernel_rfl)
theorem ct_app2 (h0 : callF W0 n 506 [vApp (.inst k1 f1) [.inst k2 f2, .inst k3 f3]] μ0 = some (.val (.str s0), μ0)) (h1 : binop .Add (.str (so "(")) (.str s0) = some (.val (.str s1))) (h2 : binop .Add (.str s1) (.str (so ")")) = some (.val (.str s2))) : callF W0 (n + 1) 513 [vApp (.inst k1 f1) [.inst k2 f2, .inst k3 f3]] μ0 = some (.val (.str s2), μ0) :=
  call_play mdT [.call (.val (.str s0)) μ0, .slot (.val (.str s1)), .slot (.val (.str s2))] (ai h0 (ai h1 (ai h2 trivial))) (by kernel_rfl)
theorem ct_app1 (h0 : callF W0 n 506 [vApp (.inst k1 f1) [.inst k2 f2]] μ0 = some (.val (.str s0), μ0)) (h1 : binop .Add (.str (so "(")) (.str s0) = some (.val (.str s1))) (h2 : binop .Add (.str s1) (.str (so ")")) = some (.val (.str s2))) : callF W0 (n + 1) 513 [vApp (.inst k1 f1) [.inst k2 f2]] μ0 = some (.val (.str s2), μ0) :=
  call_play mdT [.call (.val (.str s0)) μ0, .slot (.val (.str s1)), .slot (.val (.str s2))] (ai h0 (ai h1 (ai h2 trivial))) (by kernel_rfl)
theorem ct_lam (h0 : callF W0 n 506 [vLam ps (.inst k1 f1)] μ0 = some (.val (.str s0), μ0)) (h1 : binop .Add (.str (so "(")) (.str s0) = some (.val (.str s1))) (h2 : binop .Add (.str s1) (.str (so ")")) = some (.val (.str s2))) : callF W0 (n + 1) 513 [vLam ps (.inst k1 f1)] μ0 = some (.val (.str s2), μ0) :=
  call_play mdT [.call (.val (.str s0)) μ0, .slot (.val (.str s1)), .slot (.val (.str s2))] (ai h0 (ai h1 (ai h2 trivial))) (by kernel_rfl)
theorem ct_letT (h0 : callF W0 n 506 [vLet x (.inst k1 f1) (.inst k2 f2) true] μ0 = some (.val (.str s0), μ0)) (h1 : binop .Add (.str (so "(")) (.str s0) = some (.val (.str s1))) (h2 : binop .Add (.str s1) (.str (so ")")) = some (.val (.str s2))) : callF W0 (n + 1) 513 [vLet x (.inst k1 f1) (.inst k2 f2) true] μ0 = some (.val (.str s2), μ0) :=
  call_play mdT [.call (.val (.str s0)) μ0, .slot (.val (.str s1)), .slot (.val (.str s2))] (ai h0 (ai h1 (ai h2 trivial))) (by kernel_rfl)
theorem ct_letF (h0 : callF W0 n 506 [vLet x (.inst k1 f1) (.inst k2 f2) false] μ0 = some (.val (.str s0), μ0)) (h1 : binop .Add (.str (so "(")) (.str s0) = some (.val (.str s1))) (h2 : binop .Add (.str s1) (.str (so ")")) = some (.val (.str s2))) : callF W0 (n + 1) 513 [vLet x (.inst k1 f1) (.inst k2 f2) false] μ0 = some (.val (.str s2), μ0) :=
  call_play mdT [.call (.val (.str s0)) μ0, .slot (.val (.str s1)), .slot (.val (.str s2))] (ai h0 (ai h1 (ai h2 trivial))) (by kernel_rfl)
theorem ct_case0 (h0 : callF W0 n 506 [vCase (.inst k1 f1) c [] (.inst k2 f2)] μ0 = some (.val (.str s0), μ0)) (h1 : binop .Add (.str (so "(")) (.str s0) = some (.val (.str s1))) (h2 : binop .Add (.str s1) (.str (so ")")) = some (.val (.str s2))) : callF W0 (n + 1) 513 [vCase (.inst k1 f1) c [] (.inst k2 f2)] μ0 = some (.val (.str s2), μ0) :=
  call_play mdT [.call (.val (.str s0)) μ0, .slot (.val (.str s1)), .slot (.val (.str s2))] (ai h0 (ai h1 (ai h2 trivial))) (by kernel_rfl)
theorem ct_case1n (h0 : callF W0 n 506 [vCase (.inst k1 f1) c [.inst k2 f2] .none] μ0 = some (.val (.str s0), μ0)) (h1 : binop .Add (.str (so "(")) (.str s0) = some (.val (.str s1))) (h2 : binop .Add (.str s1) (.str (so ")")) = some (.val (.str s2))) : callF W0 (n + 1) 513 [vCase (.inst k1 f1) c [.inst k2 f2] .none] μ0 = some (.val (.str s2), μ0) :=
  call_play mdT [.call (.val (.str s0)) μ0, .slot (.val (.str s1)), .slot (.val (.str s2))] (ai h0 (ai h1 (ai h2 trivial))) (by kernel_rfl)
theorem ct_case1o (h0 : callF W0 n 506 [vCase (.inst k1 f1) c [.inst k2 f2] (vLit 0)] μ0 = some (.val (.str s0), μ0)) (h1 : binop .Add (.str (so "(")) (.str s0) = some (.val (.str s1))) (h2 : binop .Add (.str s1) (.str (so ")")) = some (.val (.str s2))) : callF W0 (n + 1) 513 [vCase (.inst k1 f1) c [.inst k2 f2] (vLit 0)] μ0 = some (.val (.str s2), μ0) :=
  call_play mdT [.call (.val (.str s0)) μ0, .slot (.val (.str s1)), .slot (.val (.str s2))] (ai h0 (ai h1 (ai h2 trivial))) (by kernel_rfl)
theorem ct_con1 (h0 : callF W0 n 506 [vCon con [.inst k1 f1]] μ0 = some (.val (.str s0), μ0)) (h1 : binop .Add (.str (so "(")) (.str s0) = some (.val (.str s1))) (h2 : binop .Add (.str s1) (.str (so ")")) = some (.val (.str s2))) : callF W0 (n + 1) 513 [vCon con [.inst k1 f1]] μ0 = some (.val (.str s2), μ0) :=
  call_play mdT [.call (.val (.str s0)) μ0, .slot (.val (.str s1)), .slot (.val (.str s2))] (ai h0 (ai h1 (ai h2 trivial))) (by kernel_rfl)
theorem ct_con2 (h0 : callF W0 n 506 [vCon con [.inst k1 f1, .inst k2 f2]] μ0 = some (.val (.str s0), μ0)) (h1 : binop .Add (.str (so "(")) (.str s0) = some (.val (.str s1))) (h2 : binop .Add (.str s1) (.str (so ")")) = some (.val (.str s2))) : callF W0 (n + 1) 513 [vCon con [.inst k1 f1, .inst k2 f2]] μ0 = some (.val (.str s2), μ0) :=
  call_play mdT [.call (.val (.str s0)) μ0, .slot (.val (.str s1)), .slot (.val (.str s2))] (ai h0 (ai h1 (ai h2 trivial))) (by kernel_rfl)
theorem it_app2 (h0 : binop .Add (.list [.inst k1 f1]) (.list [.inst k2 f2, .inst k3 f3]) = some (.own (.list [.inst k1 f1, .inst k2 f2, .inst k3 f3]))) (h1 : callF W0 n 499 [.str (so "app"), .list [.inst k1 f1, .inst k2 f2, .inst k3 f3]] μ0 = some (.val (.str s0), μ0)) : callF W0 (n + 1) 506 [vApp (.inst k1 f1) [.inst k2 f2, .inst k3 f3]] μ0 = some (.val (.str s0), μ0) :=
  call_play mdT [.slot (.own (.list [.inst k1 f1, .inst k2 f2, .inst k3 f3])), .call (.val (.str s0)) μ0] (ai h0 (ai h1 trivial)) (by kernel_rfl)
theorem it_app1 (h0 : binop .Add (.list [.inst k1 f1]) (.list [.inst k2 f2]) = some (.own (.list [.inst k1 f1, .inst k2 f2]))) (h1 : callF W0 n 499 [.str (so "app"), .list [.inst k1 f1, .inst k2 f2]] μ0 = some (.val (.str s0), μ0)) : callF W0 (n + 1) 506 [vApp (.inst k1 f1) [.inst k2 f2]] μ0 = some (.val (.str s0), μ0) :=
  call_play mdT [.slot (.own (.list [.inst k1 f1, .inst k2 f2])), .call (.val (.str s0)) μ0] (ai h0 (ai h1 trivial)) (by kernel_rfl)
theorem it_lam (h0 : callF W0 n 470 [.list ps] μ0 = some (.val (.str s0), μ0)) (h1 : binop .Add (.str (so "lam ")) (.str s0) = some (.val (.str s1))) (h2 : binop .Add (.str s1) (.str (so " ")) = some (.val (.str s2))) (h3 : callF W0 n 513 [.inst k1 f1] μ0 = some (.val (.str s3), μ0)) (h4 : binop .Add (.str s2) (.str s3) = some (.val (.str s4))) : callF W0 (n + 1) 506 [vLam ps (.inst k1 f1)] μ0 = some (.val (.str s4), μ0) :=
  call_play mdT [.call (.val (.str s0)) μ0, .slot (.val (.str s1)), .slot (.val (.str s2)), .call (.val (.str s3)) μ0, .slot (.val (.str s4))] (aq h0 h1 h2 h3 (ai h4 trivial)) (by kernel_rfl)
theorem it_let_true (h0 : callF W0 n 489 [.list [.tuple [.str x, .inst k1 f1]]] μ0 = some (.val (.str s0), μ0)) (h1 : binop .Add (.str (so "letrec ")) (.str s0) = some (.val (.str s1))) (h2 : binop .Add (.str s1) (.str (so " ")) = some (.val (.str s2))) (h3 : callF W0 n 513 [.inst k2 f2] μ0 = some (.val (.str s3), μ0)) (h4 : binop .Add (.str s2) (.str s3) = some (.val (.str s4))) : callF W0 (n + 1) 506 [vLet x (.inst k1 f1) (.inst k2 f2) true] μ0 = some (.val (.str s4), μ0) :=
  call_play mdT [.call (.val (.str s0)) μ0, .slot (.val (.str s1)), .slot (.val (.str s2)), .call (.val (.str s3)) μ0, .slot (.val (.str s4))] (aq h0 h1 h2 h3 (ai h4 trivial)) (by kernel_rfl)
theorem it_let_false (h0 : callF W0 n 489 [.list [.tuple [.str x, .inst k1 f1]]] μ0 = some (.val (.str s0), μ0)) (h1 : binop .Add (.str (so "let ")) (.str s0) = some (.val (.str s1))) (h2 : binop .Add (.str s1) (.str (so " ")) = some (.val (.str s2))) (h3 : callF W0 n 513 [.inst k2 f2] μ0 = some (.val (.str s3), μ0)) (h4 : binop .Add (.str s2) (.str s3) = some (.val (.str s4))) : callF W0 (n + 1) 506 [vLet x (.inst k1 f1) (.inst k2 f2) false] μ0 = some (.val (.str s4), μ0) :=
  call_play mdT [.call (.val (.str s0)) μ0, .slot (.val (.str s1)), .slot (.val (.str s2)), .call (.val (.str s3)) μ0, .slot (.val (.str s4))] (aq h0 h1 h2 h3 (ai h4 trivial)) (by kernel_rfl)
theorem it_case0 (h0 : callF W0 n 494 [vCase (.inst k1 f1) c [] (.inst k2 f2)] μ0 = some (.val (.str s0), μ0)) : callF W0 (n + 1) 506 [vCase (.inst k1 f1) c [] (.inst k2 f2)] μ0 = some (.val (.str s0), μ0) :=
  call_play mdT [.call (.val (.str s0)) μ0] (ai h0 trivial) (by kernel_rfl)
theorem it_case1n (h0 : callF W0 n 494 [vCase (.inst k1 f1) c [.inst k2 f2] .none] μ0 = some (.val (.str s0), μ0)) : callF W0 (n + 1) 506 [vCase (.inst k1 f1) c [.inst k2 f2] .none] μ0 = some (.val (.str s0), μ0) :=
  call_play mdT [.call (.val (.str s0)) μ0] (ai h0 trivial) (by kernel_rfl)
theorem it_case1o (h0 : callF W0 n 494 [vCase (.inst k1 f1) c [.inst k2 f2] (vLit 0)] μ0 = some (.val (.str s0), μ0)) : callF W0 (n + 1) 506 [vCase (.inst k1 f1) c [.inst k2 f2] (vLit 0)] μ0 = some (.val (.str s0), μ0) :=
  call_play mdT [.call (.val (.str s0)) μ0] (ai h0 trivial) (by kernel_rfl)
theorem it_con1 (h0 : callF W0 n 465 [.str con] μ0 = some (.val (.str s0), μ0)) (h1 : binop .Add (.str (so "con ")) (.str s0) = some (.val (.str s1))) (h2 : callF W0 n 499 [.str s1, .list [.inst k1 f1]] μ0 = some (.val (.str s2), μ0)) : callF W0 (n + 1) 506 [vCon con [.inst k1 f1]] μ0 = some (.val (.str s2), μ0) :=
  call_play mdT [.call (.val (.str s0)) μ0, .slot (.val (.str s1)), .call (.val (.str s2)) μ0] (ai h0 (ai h1 (ai h2 trivial))) (by kernel_rfl)
theorem it_con2 (h0 : callF W0 n 465 [.str con] μ0 = some (.val (.str s0), μ0)) (h1 : binop .Add (.str (so "con ")) (.str s0) = some (.val (.str s1))) (h2 : callF W0 n 499 [.str s1, .list [.inst k1 f1, .inst k2 f2]] μ0 = some (.val (.str s2), μ0)) : callF W0 (n + 1) 506 [vCon con [.inst k1 f1, .inst k2 f2]] μ0 = some (.val (.str s2), μ0) :=
  call_play mdT [.call (.val (.str s0)) μ0, .slot (.val (.str s1)), .call (.val (.str s2)) μ0] (ai h0 (ai h1 (ai h2 trivial))) (by kernel_rfl)
theorem rt_1 (h0 : callF W0 n 513 [.inst k1 f1] μ0 = some (.val (.str t0), μ0)) (h1 : binop .Add (.list [.str w]) (.list [.str t0]) = some (.own (.list [.str w, .str t0]))) (h2 : prim 15 [.str (so " "), .list [.str w, .str t0]] = some (.val (.str s0))) : callF W0 (n + 1) 499 [.str w, .list [.inst k1 f1]] μ0 = some (.val (.str s0), μ0) :=
  call_play mdT [.call (.val (.str t0)) μ0, .slot (.own (.list [.str w, .str t0])), .slot (.val (.str s0))] (ai h0 (ai h1 (ai h2 trivial))) (by kernel_rfl)
theorem rt_2 (h0 : callF W0 n 513 [.inst k1 f1] μ0 = some (.val (.str t0), μ0)) (h1 : callF W0 n 513 [.inst k2 f2] μ0 = some (.val (.str t1), μ0)) (h2 : binop .Add (.list [.str w]) (.list [.str t0, .str t1]) = some (.own (.list [.str w, .str t0, .str t1]))) (h3 : prim 15 [.str (so " "), .list [.str w, .str t0, .str t1]] = some (.val (.str s0))) : callF W0 (n + 1) 499 [.str w, .list [.inst k1 f1, .inst k2 f2]] μ0 = some (.val (.str s0), μ0) :=
  call_play mdT [.call (.val (.str t0)) μ0, .call (.val (.str t1)) μ0, .slot (.own (.list [.str w, .str t0, .str t1])), .slot (.val (.str s0))] (aq h0 h1 h2 h3 trivial) (by kernel_rfl)
theorem rt_3 (h0 : callF W0 n 513 [.inst k1 f1] μ0 = some (.val (.str t0), μ0)) (h1 : callF W0 n 513 [.inst k2 f2] μ0 = some (.val (.str t1), μ0)) (h2 : callF W0 n 513 [.inst k3 f3] μ0 = some (.val (.str t2), μ0)) (h3 : binop .Add (.list [.str w]) (.list [.str t0, .str t1, .str t2]) = some (.own (.list [.str w, .str t0, .str t1, .str t2]))) (h4 : prim 15 [.str (so " "), .list [.str w, .str t0, .str t1, .str t2]] = some (.val (.str s0))) : callF W0 (n + 1) 499 [.str w, .list [.inst k1 f1, .inst k2 f2, .inst k3 f3]] μ0 = some (.val (.str s0), μ0) :=
  call_play mdT [.call (.val (.str t0)) μ0, .call (.val (.str t1)) μ0, .call (.val (.str t2)) μ0, .slot (.own (.list [.str w, .str t0, .str t1, .str t2])), .slot (.val (.str s0))] (aq h0 h1 h2 h3 (ai h4 trivial)) (by kernel_rfl)
theorem ns_1 (h0 : callF W0 n 465 [.str x0] μ0 = some (.val (.str x0), μ0)) (h1 : prim 15 [.str (so " "), .list [.str x0]] = some (.val (.str s0))) (h2 : binop .Add (.str (so "(")) (.str s0) = some (.val (.str s1))) (h3 : binop .Add (.str s1) (.str (so ")")) = some (.val (.str s2))) : callF W0 (n + 1) 470 [.list [.str x0]] μ0 = some (.val (.str s2), μ0) :=
  call_play mdT [.call (.val (.str x0)) μ0, .slot (.val (.str s0)), .slot (.val (.str s1)), .slot (.val (.str s2))] (aq h0 h1 h2 h3 trivial) (by kernel_rfl)
theorem ns_2 (h0 : callF W0 n 465 [.str x0] μ0 = some (.val (.str x0), μ0)) (h1 : callF W0 n 465 [.str x1] μ0 = some (.val (.str x1), μ0)) (h2 : prim 15 [.str (so " "), .list [.str x0, .str x1]] = some (.val (.str s0))) (h3 : binop .Add (.str (so "(")) (.str s0) = some (.val (.str s1))) (h4 : binop .Add (.str s1) (.str (so ")")) = some (.val (.str s2))) : callF W0 (n + 1) 470 [.list [.str x0, .str x1]] μ0 = some (.val (.str s2), μ0) :=
  call_play mdT [.call (.val (.str x0)) μ0, .call (.val (.str x1)) μ0, .slot (.val (.str s0)), .slot (.val (.str s1)), .slot (.val (.str s2))] (aq h0 h1 h2 h3 (ai h4 trivial)) (by kernel_rfl)
theorem ns_3 (h0 : callF W0 n 465 [.str x0] μ0 = some (.val (.str x0), μ0)) (h1 : callF W0 n 465 [.str x1] μ0 = some (.val (.str x1), μ0)) (h2 : callF W0 n 465 [.str x2] μ0 = some (.val (.str x2), μ0)) (h3 : prim 15 [.str (so " "), .list [.str x0, .str x1, .str x2]] = some (.val (.str s0))) (h4 : binop .Add (.str (so "(")) (.str s0) = some (.val (.str s1))) (h5 : binop .Add (.str s1) (.str (so ")")) = some (.val (.str s2))) : callF W0 (n + 1) 470 [.list [.str x0, .str x1, .str x2]] μ0 = some (.val (.str s2), μ0) :=
  call_play mdT [.call (.val (.str x0)) μ0, .call (.val (.str x1)) μ0, .call (.val (.str x2)) μ0, .slot (.val (.str s0)), .slot (.val (.str s1)), .slot (.val (.str s2))] (aq h0 h1 h2 h3 (ai h4 (ai h5 trivial))) (by kernel_rfl)
theorem ns_4 (h0 : callF W0 n 465 [.str x0] μ0 = some (.val (.str x0), μ0)) (h1 : callF W0 n 465 [.str x1] μ0 = some (.val (.str x1), μ0)) (h2 : callF W0 n 465 [.str x2] μ0 = some (.val (.str x2), μ0)) (h3 : callF W0 n 465 [.str x3] μ0 = some (.val (.str x3), μ0)) (h4 : prim 15 [.str (so " "), .list [.str x0, .str x1, .str x2, .str x3]] = some (.val (.str s0))) (h5 : binop .Add (.str (so "(")) (.str s0) = some (.val (.str s1))) (h6 : binop .Add (.str s1) (.str (so ")")) = some (.val (.str s2))) : callF W0 (n + 1) 470 [.list [.str x0, .str x1, .str x2, .str x3]] μ0 = some (.val (.str s2), μ0) :=
  call_play mdT [.call (.val (.str x0)) μ0, .call (.val (.str x1)) μ0, .call (.val (.str x2)) μ0, .call (.val (.str x3)) μ0, .slot (.val (.str s0)), .slot (.val (.str s1)), .slot (.val (.str s2))] (aq h0 h1 h2 h3 (ai h4 (ai h5 (ai h6 trivial)))) (by kernel_rfl)
theorem ns_5 (h0 : callF W0 n 465 [.str x0] μ0 = some (.val (.str x0), μ0)) (h1 : callF W0 n 465 [.str x1] μ0 = some (.val (.str x1), μ0)) (h2 : callF W0 n 465 [.str x2] μ0 = some (.val (.str x2), μ0)) (h3 : callF W0 n 465 [.str x3] μ0 = some (.val (.str x3), μ0)) (h4 : callF W0 n 465 [.str x4] μ0 = some (.val (.str x4), μ0)) (h5 : prim 15 [.str (so " "), .list [.str x0, .str x1, .str x2, .str x3, .str x4]] = some (.val (.str s0))) (h6 : binop .Add (.str (so "(")) (.str s0) = some (.val (.str s1))) (h7 : binop .Add (.str s1) (.str (so ")")) = some (.val (.str s2))) : callF W0 (n + 1) 470 [.list [.str x0, .str x1, .str x2, .str x3, .str x4]] μ0 = some (.val (.str s2), μ0) :=
  call_play mdT [.call (.val (.str x0)) μ0, .call (.val (.str x1)) μ0, .call (.val (.str x2)) μ0, .call (.val (.str x3)) μ0, .call (.val (.str x4)) μ0, .slot (.val (.str s0)), .slot (.val (.str s1)), .slot (.val (.str s2))] (ah h0 h1 h2 h3 h4 h5 h6 h7 trivial) (by kernel_rfl)
theorem ns_6 (h0 : callF W0 n 465 [.str x0] μ0 = some (.val (.str x0), μ0)) (h1 : callF W0 n 465 [.str x1] μ0 = some (.val (.str x1), μ0)) (h2 : callF W0 n 465 [.str x2] μ0 = some (.val (.str x2), μ0)) (h3 : callF W0 n 465 [.str x3] μ0 = some (.val (.str x3), μ0)) (h4 : callF W0 n 465 [.str x4] μ0 = some (.val (.str x4), μ0)) (h5 : callF W0 n 465 [.str x5] μ0 = some (.val (.str x5), μ0)) (h6 : prim 15 [.str (so " "), .list [.str x0, .str x1, .str x2, .str x3, .str x4, .str x5]] = some (.val (.str s0))) (h7 : binop .Add (.str (so "(")) (.str s0) = some (.val (.str s1))) (h8 : binop .Add (.str s1) (.str (so ")")) = some (.val (.str s2))) : callF W0 (n + 1) 470 [.list [.str x0, .str x1, .str x2, .str x3, .str x4, .str x5]] μ0 = some (.val (.str s2), μ0) :=
  call_play mdT [.call (.val (.str x0)) μ0, .call (.val (.str x1)) μ0, .call (.val (.str x2)) μ0, .call (.val (.str x3)) μ0, .call (.val (.str x4)) μ0, .call (.val (.str x5)) μ0, .slot (.val (.str s0)), .slot (.val (.str s1)), .slot (.val (.str s2))] (ah h0 h1 h2 h3 h4 h5 h6 h7 (ai h8 trivial)) (by kernel_rfl)
theorem ns_7 (h0 : callF W0 n 465 [.str x0] μ0 = some (.val (.str x0), μ0)) (h1 : callF W0 n 465 [.str x1] μ0 = some (.val (.str x1), μ0)) (h2 : callF W0 n 465 [.str x2] μ0 = some (.val (.str x2), μ0)) (h3 : callF W0 n 465 [.str x3] μ0 = some (.val (.str x3), μ0)) (h4 : callF W0 n 465 [.str x4] μ0 = some (.val (.str x4), μ0)) (h5 : callF W0 n 465 [.str x5] μ0 = some (.val (.str x5), μ0)) (h6 : callF W0 n 465 [.str x6] μ0 = some (.val (.str x6), μ0)) (h7 : prim 15 [.str (so " "), .list [.str x0, .str x1, .str x2, .str x3, .str x4, .str x5, .str x6]] = some (.val (.str s0))) (h8 : binop .Add (.str (so "(")) (.str s0) = some (.val (.str s1))) (h9 : binop .Add (.str s1) (.str (so ")")) = some (.val (.str s2))) : callF W0 (n + 1) 470 [.list [.str x0, .str x1, .str x2, .str x3, .str x4, .str x5, .str x6]] μ0 = some (.val (.str s2), μ0) :=
  call_play mdT [.call (.val (.str x0)) μ0, .call (.val (.str x1)) μ0, .call (.val (.str x2)) μ0, .call (.val (.str x3)) μ0, .call (.val (.str x4)) μ0, .call (.val (.str x5)) μ0, .call (.val (.str x6)) μ0, .slot (.val (.str s0)), .slot (.val (.str s1)), .slot (.val (.str s2))] (ah h0 h1 h2 h3 h4 h5 h6 h7 (ai h8 (ai h9 trivial))) (by kernel_rfl)
theorem ns_8 (h0 : callF W0 n 465 [.str x0] μ0 = some (.val (.str x0), μ0)) (h1 : callF W0 n 465 [.str x1] μ0 = some (.val (.str x1), μ0)) (h2 : callF W0 n 465 [.str x2] μ0 = some (.val (.str x2), μ0)) (h3 : callF W0 n 465 [.str x3] μ0 = some (.val (.str x3), μ0)) (h4 : callF W0 n 465 [.str x4] μ0 = some (.val (.str x4), μ0)) (h5 : callF W0 n 465 [.str x5] μ0 = some (.val (.str x5), μ0)) (h6 : callF W0 n 465 [.str x6] μ0 = some (.val (.str x6), μ0)) (h7 : callF W0 n 465 [.str x7] μ0 = some (.val (.str x7), μ0)) (h8 : prim 15 [.str (so " "), .list [.str x0, .str x1, .str x2, .str x3, .str x4, .str x5, .str x6, .str x7]] = some (.val (.str s0))) (h9 : binop .Add (.str (so "(")) (.str s0) = some (.val (.str s1))) (h10 : binop .Add (.str s1) (.str (so ")")) = some (.val (.str s2))) : callF W0 (n + 1) 470 [.list [.str x0, .str x1, .str x2, .str x3, .str x4, .str x5, .str x6, .str x7]] μ0 = some (.val (.str s2), μ0) :=
  call_play mdT [.call (.val (.str x0)) μ0, .call (.val (.str x1)) μ0, .call (.val (.str x2)) μ0, .call (.val (.str x3)) μ0, .call (.val (.str x4)) μ0, .call (.val (.str x5)) μ0, .call (.val (.str x6)) μ0, .call (.val (.str x7)) μ0, .slot (.val (.str s0)), .slot (.val (.str s1)), .slot (.val (.str s2))] (ah h0 h1 h2 h3 h4 h5 h6 h7 (ai h8 (ai h9 (ai h10 trivial)))) (by kernel_rfl)
theorem bt_1 (h0 : callF W0 n 465 [.str x] μ0 = some (.val (.str x), μ0)) (h1 : binop .Add (.str (so "(")) (.str x) = some (.val (.str s0))) (h2 : binop .Add (.str s0) (.str (so " ")) = some (.val (.str s1))) (h3 : callF W0 n 513 [.inst k1 f1] μ0 = some (.val (.str t0), μ0)) (h4 : binop .Add (.str s1) (.str t0) = some (.val (.str s2))) (h5 : binop .Add (.str s2) (.str (so ")")) = some (.val (.str s3))) (h6 : prim 15 [.str (so " "), .list [.str s3]] = some (.val (.str s4))) (h7 : binop .Add (.str (so "(")) (.str s4) = some (.val (.str s5))) (h8 : binop .Add (.str s5) (.str (so ")")) = some (.val (.str s6))) : callF W0 (n + 1) 489 [.list [.tuple [.str x, .inst k1 f1]]] μ0 = some (.val (.str s6), μ0) :=
  call_play mdT [.call (.val (.str x)) μ0, .slot (.val (.str s0)), .slot (.val (.str s1)), .call (.val (.str t0)) μ0, .slot (.val (.str s2)), .slot (.val (.str s3)), .slot (.val (.str s4)), .slot (.val (.str s5)), .slot (.val (.str s6))] (ah h0 h1 h2 h3 h4 h5 h6 h7 (ai h8 trivial)) (by kernel_rfl)
theorem kt (h0 : callF W0 n 465 [.str con] μ0 = some (.val (.str con), μ0)) (h1 : binop .Add (.str (so "of ")) (.str con) = some (.val (.str s0))) (h2 : binop .Add (.str s0) (.str (so " ")) = some (.val (.str s1))) (h3 : callF W0 n 470 [.list ps] μ0 = some (.val (.str t0), μ0)) (h4 : binop .Add (.str s1) (.str t0) = some (.val (.str s2))) : callF W0 (n + 1) 484 [vAlt con ps (.inst k1 f1)] μ0 = some (.val (.str s2), μ0) :=
  call_play mdT [.call (.val (.str con)) μ0, .slot (.val (.str s0)), .slot (.val (.str s1)), .call (.val (.str t0)) μ0, .slot (.val (.str s2))] (aq h0 h1 h2 h3 (ai h4 trivial)) (by kernel_rfl)
theorem cs_0 (h1 : callF W0 n 513 [.inst k1 f1] μ0 = some (.val (.str t0), μ0)) (h2 : binop .Add (.str (so "case ")) (.str t0) = some (.val (.str s1))) (h3 : binop .Add (.str s1) (.str (so " ")) = some (.val (.str s2))) (h4 : callF W0 n 465 [.str c] μ0 = some (.val (.str c), μ0)) (h5 : binop .Add (.str s2) (.str c) = some (.val (.str s3))) (h6 : binop .Add (.str s3) (.str (so " (")) = some (.val (.str s4))) (h7 : binop .Add (.str s4) (.str (so "")) = some (.val (.str s5))) (h8 : binop .Add (.str s5) (.str (so ")")) = some (.val (.str s6))) (h9 : binop .Add (.str s6) (.str (so " (else ")) = some (.val (.str s7))) (h10 : callF W0 n 513 [.inst k2 f2] μ0 = some (.val (.str t1), μ0)) (h11 : binop .Add (.str s7) (.str t1) = some (.val (.str s8))) (h12 : binop .Add (.str s8) (.str (so ")")) = some (.val (.str s9))) : callF W0 (n + 1) 494 [vCase (.inst k1 f1) c [] (.inst k2 f2)] μ0 = some (.val (.str s9), μ0) :=
  call_play mdT [.slot (.val (.str (so ""))), .call (.val (.str t0)) μ0, .slot (.val (.str s1)), .slot (.val (.str s2)), .call (.val (.str c)) μ0, .slot (.val (.str s3)), .slot (.val (.str s4)), .slot (.val (.str s5)), .slot (.val (.str s6)), .slot (.val (.str s7)), .call (.val (.str t1)) μ0, .slot (.val (.str s8)), .slot (.val (.str s9))] (ah (show prim 15 [.str (so " "), .list []] = some (.val (.str (so ""))) from rfl) h1 h2 h3 h4 h5 h6 h7 (aq h8 h9 h10 h11 (ai h12 trivial))) (by kernel_rfl)
theorem cs_1n (h0 : callF W0 n 484 [vAlt con ps (.inst k2 f2)] μ0 = some (.val (.str t2), μ0)) (h1 : binop .Add (.str (so "(")) (.str t2) = some (.val (.str s0))) (h2 : binop .Add (.str s0) (.str (so " ")) = some (.val (.str s1))) (h3 : callF W0 n 513 [.inst k2 f2] μ0 = some (.val (.str t3), μ0)) (h4 : binop .Add (.str s1) (.str t3) = some (.val (.str s2))) (h5 : binop .Add (.str s2) (.str (so ")")) = some (.val (.str s3))) (h6 : prim 15 [.str (so " "), .list [.str s3]] = some (.val (.str s4))) (h7 : callF W0 n 513 [.inst k1 f1] μ0 = some (.val (.str t0), μ0)) (h8 : binop .Add (.str (so "case ")) (.str t0) = some (.val (.str s5))) (h9 : binop .Add (.str s5) (.str (so " ")) = some (.val (.str s6))) (h10 : callF W0 n 465 [.str c] μ0 = some (.val (.str c), μ0)) (h11 : binop .Add (.str s6) (.str c) = some (.val (.str s7))) (h12 : binop .Add (.str s7) (.str (so " (")) = some (.val (.str s8))) (h13 : binop .Add (.str s8) (.str s4) = some (.val (.str s9))) (h14 : binop .Add (.str s9) (.str (so ")")) = some (.val (.str w))) : callF W0 (n + 1) 494 [vCase (.inst k1 f1) c [vAlt con ps (.inst k2 f2)] .none] μ0 = some (.val (.str w), μ0) :=
  call_play mdT [.call (.val (.str t2)) μ0, .slot (.val (.str s0)), .slot (.val (.str s1)), .call (.val (.str t3)) μ0, .slot (.val (.str s2)), .slot (.val (.str s3)), .slot (.val (.str s4)), .call (.val (.str t0)) μ0, .slot (.val (.str s5)), .slot (.val (.str s6)), .call (.val (.str c)) μ0, .slot (.val (.str s7)), .slot (.val (.str s8)), .slot (.val (.str s9)), .slot (.val (.str w))] (ah h0 h1 h2 h3 h4 h5 h6 h7 (aq h8 h9 h10 h11 (ai h12 (ai h13 (ai h14 trivial))))) (by kernel_rfl)
theorem cs_1o (h0 : callF W0 n 484 [vAlt con ps (.inst k2 f2)] μ0 = some (.val (.str t2), μ0)) (h1 : binop .Add (.str (so "(")) (.str t2) = some (.val (.str s0))) (h2 : binop .Add (.str s0) (.str (so " ")) = some (.val (.str s1))) (h3 : callF W0 n 513 [.inst k2 f2] μ0 = some (.val (.str t3), μ0)) (h4 : binop .Add (.str s1) (.str t3) = some (.val (.str s2))) (h5 : binop .Add (.str s2) (.str (so ")")) = some (.val (.str s3))) (h6 : prim 15 [.str (so " "), .list [.str s3]] = some (.val (.str s4))) (h7 : callF W0 n 513 [.inst k1 f1] μ0 = some (.val (.str t0), μ0)) (h8 : binop .Add (.str (so "case ")) (.str t0) = some (.val (.str s5))) (h9 : binop .Add (.str s5) (.str (so " ")) = some (.val (.str s6))) (h10 : callF W0 n 465 [.str c] μ0 = some (.val (.str c), μ0)) (h11 : binop .Add (.str s6) (.str c) = some (.val (.str s7))) (h12 : binop .Add (.str s7) (.str (so " (")) = some (.val (.str s8))) (h13 : binop .Add (.str s8) (.str s4) = some (.val (.str s9))) (h14 : binop .Add (.str s9) (.str (so ")")) = some (.val (.str w))) (h15 : binop .Add (.str w) (.str (so " (else ")) = some (.val (.str x0))) (h16 : callF W0 n 513 [vLit 0] μ0 = some (.val (.str t1), μ0)) (h17 : binop .Add (.str x0) (.str t1) = some (.val (.str x1))) (h18 : binop .Add (.str x1) (.str (so ")")) = some (.val (.str x2))) : callF W0 (n + 1) 494 [vCase (.inst k1 f1) c [vAlt con ps (.inst k2 f2)] (vLit 0)] μ0 = some (.val (.str x2), μ0) :=
  call_play mdT [.call (.val (.str t2)) μ0, .slot (.val (.str s0)), .slot (.val (.str s1)), .call (.val (.str t3)) μ0, .slot (.val (.str s2)), .slot (.val (.str s3)), .slot (.val (.str s4)), .call (.val (.str t0)) μ0, .slot (.val (.str s5)), .slot (.val (.str s6)), .call (.val (.str c)) μ0, .slot (.val (.str s7)), .slot (.val (.str s8)), .slot (.val (.str s9)), .slot (.val (.str w)), .slot (.val (.str x0)), .call (.val (.str t1)) μ0, .slot (.val (.str x1)), .slot (.val (.str x2))] (ah h0 h1 h2 h3 h4 h5 h6 h7 (ah h8 h9 h10 h11 h12 h13 h14 h15 (ai h16 (ai h17 (ai h18 trivial))))) (by kernel_rfl)
end
end Mini
namespace Mini
theorem up {a : Addr} {vs : List V} {μ : Mu} {r : Option (Slot × Mu)} {k N : Nat} (h : k ≤ N) (f : ∀ n, callF W0 (n + k) a vs μ = r) : callF W0 N a vs μ = r := by
  have := f (N - k)
  rwa [Nat.sub_add_cancel h] at this
theorem down (j : Nat) {k N : Nat} (h : k + j ≤ N) : ∃ n, N = n + j ∧ k ≤ n := ⟨N - j, (Nat.sub_add_cancel (Nat.le_trans (Nat.le_add_left j k) h)).symm, Nat.le_sub_of_add_le h⟩
theorem lcat (a b : Str) : (a ++ b).length = a.length + b.length := Str.length_append a b
noncomputable def Fit (t : Str) : Prop := t.length ≤ 16000000
theorem Fit.l {s t : Str} (h : Fit (s ++ t)) : Fit s := Nat.le_trans (Nat.le_add_right _ _) (Nat.le_trans (Nat.le_of_eq (lcat s t).symm) h)
theorem Fit.r {s t : Str} (h : Fit (s ++ t)) : Fit t := Nat.le_trans (Nat.le_add_left _ _) (Nat.le_trans (Nat.le_of_eq (lcat s t).symm) h)
theorem cat_f {a b : Str} (h : Fit (a ++ b)) : binop .Add (.str a) (.str b) = some (.val (.str (a ++ b))) := op_cat (lcat a b ▸ h)
theorem len2 {s t : Str} {a b : Nat} (h : s.length ≤ a) (h' : t.length ≤ b) : (s ++ t).length ≤ a + b := lcat s t ▸ Nat.add_le_add h h'
theorem strsOf_map : ∀ l : List Str, strsOf (l.map .str) = some l
  | [] => rfl
  | x :: r => by
    show (strsOf (r.map .str)).map _ = _
    rw [strsOf_map r]
    rfl
noncomputable def sumLen (ts : List Str) : Nat := ts.foldr (fun t n => t.length + n) 0
theorem sp1 : (so " ").length = 1 := by decide
theorem fold_len : ∀ (l : List Str) (n : Nat), l.foldl (fun a b => a + b.length + (so " ").length) n = n + sumLen l + l.length
  | [], n => rfl
  | x :: r, n => by
    rw [List.foldl_cons, fold_len r, sp1]
    show _ = n + (x.length + sumLen r) + (r.length + 1)
    omega
theorem sum_len : ∀ l : List Str, (l.map (·.length)).sum = sumLen l
  | [] => rfl
  | x :: r => by rw [List.map_cons, List.sum_cons, sum_len r]; rfl
theorem join_ok {ts : List Str} {S : Nat} (h : sumLen ts ≤ S) (hS : S + ts.length ≤ 1000000) : prim 15 [.str (so " "), .list (ts.map .str)] = some (.val (.str (Txt.join (so " ") ts))) ∧ (Txt.join (so " ") ts).length ≤ S + ts.length := by
  have hj : JoinOk (so " ") ts = true := by
    unfold JoinOk Builtin.Str.tooLong
    rw [List.foldl_toArray, fold_len]
    simp only [sizeLine_eq, Nat.zero_add]
    simp; omega
  refine ⟨?_, ?_⟩
  · show (joinS (so " ") (ts.map .str)).map _ = _
    unfold joinS
    rw [strsOf_map]
    show (gdo (JoinOk (so " ") ts) _).map _ = _
    rw [hj]
    rfl
  · show (Builtin.Str.glued (so " ") ts).length ≤ _
    rw [size_glued, sp1, sum_len]
    omega
noncomputable def NT (x : Str) : Prop := x.length ≤ 12 ∧ ∀ N μ, 4 ≤ N → callF W0 N 465 [.str x] μ = some (.val (.str x), μ)
inductive Tx (k L : Nat) (v : V) : Prop
  | mk (K : Addr) (f : List (Str × V)) (t : Str) (e : v = .inst K f) (len : t.length ≤ L) (run : ∀ N μ, k ≤ N → callF W0 N 513 [v] μ = some (.val (.str t), μ)) : Tx k L v
theorem Tx.mono {k k' L L' : Nat} {v : V} (h : Tx k L v) (hk : k ≤ k') (hL : L ≤ L') : Tx k' L' v := by
  obtain ⟨K, f, t, e, hl, h⟩ := h
  exact ⟨K, f, t, e, Nat.le_trans hl hL, fun N μ hN => h N μ (Nat.le_trans hk hN)⟩
inductive Ns (L : Nat) (ps : List V) : Prop
  | mk (t : Str) (len : t.length ≤ L) (run : ∀ N μ, 5 ≤ N → callF W0 N 470 [.list ps] μ = some (.val (.str t), μ)) : Ns L ps
theorem l1 : (so "(").length ≤ 1 := by decide
theorem l2 : (so ")").length ≤ 1 := by decide
theorem l3 : (so " ").length ≤ 1 := by decide
theorem l4 : (so "lam ").length ≤ 4 := by decide
theorem l5 : (so "let ").length ≤ 4 := by decide
theorem l6 : (so "letrec ").length ≤ 7 := by decide
theorem l7 : (so "case ").length ≤ 5 := by decide
theorem l8 : (so " (").length ≤ 2 := by decide
theorem l9 : (so " (else ").length ≤ 7 := by decide
theorem l10 : (so "con ").length ≤ 4 := by decide
theorem l11 : (so "of ").length ≤ 3 := by decide
theorem l12 : (so "app").length ≤ 3 := by decide
theorem l13 : (so "").length ≤ 0 := by decide
theorem tx_var {x : Str} (h : NT x) : Tx 5 12 (vVar (.str x)) := ⟨_, _, x, rfl, h.1, fun N μ hN => by
  obtain ⟨n, rfl, hn⟩ := down 1 hN
  exact ct_var (h.2 n μ hn)⟩
theorem tx_lit3 : Tx 5 12 (vLit 3) := ⟨_, _, so "(int 3)", rfl, by decide, fun N μ hN => up hN fun n => by kernel_rfl⟩
theorem tx_lit0 : Tx 5 12 (vLit 0) := ⟨_, _, so "(int 0)", rfl, by decide, fun N μ hN => up hN fun n => by kernel_rfl⟩
theorem fit2 {a b : Nat} (h : a + b ≤ 900000) : a + b + 400 ≤ 16000000 := Nat.le_trans (Nat.add_le_add_right h 400) (by decide)
theorem s4 {a b : Nat} (h : a + b ≤ 900000) {c : Nat} (hc : c ≤ 400) {t : Str} (ht : t.length ≤ a + b + c) : Fit t := Nat.le_trans ht (Nat.le_trans (Nat.add_le_add_left hc _) (fit2 h))
theorem a1 {a b c : Nat} : 1 + (3 + (a + (b + (c + 0))) + 4) + 1 ≤ b + a + c + 20 := by omega
theorem a2 {a b : Nat} : 1 + (3 + (a + (b + 0)) + 3) + 1 ≤ a + b + 20 := by omega
theorem a3 {a b : Nat} : 1 + (4 + a + 1 + b) + 1 ≤ b + a + 20 := by omega
theorem a4 {a : Nat} : 1 + (1 + 12 + 1 + a + 1 + 0 + 1) + 1 ≤ a + 30 := by omega
theorem a5 {a b : Nat} : 1 + (7 + (a + 30) + 1 + b) + 1 ≤ a + b + 60 := by omega
theorem c3 {a b c : Nat} (h : b + a + c ≤ 900000) : 3 + (a + (b + (c + 0))) + 4 ≤ 1000000 := by omega
theorem c2 {a b : Nat} (h : a + b ≤ 900000) : 3 + (a + (b + 0)) + 3 ≤ 1000000 := by omega
theorem le1 {k n : Nat} (h : k ≤ n) : k ≤ n + 1 := Nat.le_succ_of_le h
theorem le2 {k n : Nat} (h : k ≤ n) : k ≤ n + 2 := le1 (le1 h)
section
variable {k L L1 L2 Lp : Nat} {a b v : V} {ps : List V} {x c con : Str}
theorem tx_app2 (hv : Tx k L1 v) (ha : Tx k L a) (hb : Tx k L2 b) (hk : 5 ≤ k) (hL : L + L1 + L2 ≤ 900000) : Tx (k + 3) (L + L1 + L2 + 20) (vApp v [a, b]) := by
  obtain ⟨_, _, t0, rfl, hl0, h0⟩ := hv
  obtain ⟨_, _, t1, rfl, hl1, h1⟩ := ha
  obtain ⟨_, _, t2, rfl, hl2, h2⟩ := hb
  obtain ⟨j1, j2⟩ := join_ok (ts := [so "app", t0, t1, t2]) (Nat.add_le_add l12 (Nat.add_le_add hl0 (Nat.add_le_add hl1 (Nat.add_le_add hl2 (Nat.le_refl 0))))) (c3 hL)
  have hT := Nat.le_trans (len2 (len2 l1 j2) l2) a1
  have F := s4 hL (by decide) hT
  refine ⟨_, _, _, rfl, hT, fun N μ hN => ?_⟩
  obtain ⟨n, rfl, hn⟩ := down 3 hN
  exact ct_app2 (it_app2 rfl (rt_3 (h0 n μ hn) (h1 n μ hn) (h2 n μ hn) rfl j1)) (cat_f F.l) (cat_f F)
theorem tx_app1 (hv : Tx k L1 v) (ha : Tx k L a) (hk : 5 ≤ k) (hL : L1 + L ≤ 900000) : Tx (k + 3) (L1 + L + 20) (vApp v [a]) := by
  obtain ⟨_, _, t0, rfl, hl0, h0⟩ := hv
  obtain ⟨_, _, t1, rfl, hl1, h1⟩ := ha
  obtain ⟨j1, j2⟩ := join_ok (ts := [so "app", t0, t1]) (Nat.add_le_add l12 (Nat.add_le_add hl0 (Nat.add_le_add hl1 (Nat.le_refl 0)))) (c2 hL)
  have hT := Nat.le_trans (len2 (len2 l1 j2) l2) a2
  have F := s4 hL (by decide) hT
  refine ⟨_, _, _, rfl, hT, fun N μ hN => ?_⟩
  obtain ⟨n, rfl, hn⟩ := down 3 hN
  exact ct_app1 (it_app1 rfl (rt_2 (h0 n μ hn) (h1 n μ hn) rfl j1)) (cat_f F.l) (cat_f F)
theorem tx_lam (hp : Ns Lp ps) (ha : Tx k L a) (hk : 5 ≤ k) (hL : L + Lp ≤ 900000) : Tx (k + 2) (L + Lp + 20) (vLam ps a) := by
  obtain ⟨_, _, t0, rfl, hl0, h0⟩ := ha
  obtain ⟨tp, hlp, hp⟩ := hp
  have hT := Nat.le_trans (len2 (len2 l1 (len2 (len2 (len2 l4 hlp) l3) hl0)) l2) a3
  have F := s4 hL (by decide) hT
  refine ⟨_, _, _, rfl, hT, fun N μ hN => ?_⟩
  obtain ⟨n, rfl, hn⟩ := down 2 hN
  exact ct_lam (it_lam (hp n μ (Nat.le_trans hk hn)) (cat_f F.l.r.l.l) (cat_f F.l.r.l) (h0 n μ hn) (cat_f F.l.r)) (cat_f F.l) (cat_f F)
inductive Bt (k L : Nat) (x : Str) (a : V) : Prop
  | mk (t : Str) (len : t.length ≤ L + 30) (run : ∀ N μ, k + 1 ≤ N → callF W0 N 489 [.list [.tuple [.str x, a]]] μ = some (.val (.str t), μ)) : Bt k L x a
theorem bt_ok (hx : NT x) (ha : Tx k L a) (hk : 5 ≤ k) (hL : L ≤ 900000) : Bt k L x a := by
  obtain ⟨_, _, t0, rfl, hl0, h0⟩ := ha
  have hi := len2 (len2 (len2 (len2 l1 hx.1) l3) hl0) l2
  obtain ⟨j1, j2⟩ := join_ok (ts := [so "(" ++ x ++ so " " ++ t0 ++ so ")"]) (Nat.add_le_add hi (Nat.le_refl 0)) (show 1 + 12 + 1 + L + 1 + 0 + 1 ≤ 1000000 by omega)
  have hT := Nat.le_trans (len2 (len2 l1 j2) l2) a4
  have F : Fit _ := Nat.le_trans hT (show L + 30 ≤ 16000000 by omega)
  have F2 : Fit (so "(" ++ x ++ so " " ++ t0 ++ so ")") := Nat.le_trans hi (show 1 + 12 + 1 + L + 1 ≤ 16000000 by omega)
  refine ⟨_, hT, fun N μ hN => ?_⟩
  obtain ⟨n, rfl, hn⟩ := down 1 hN
  exact bt_1 (hx.2 n μ (Nat.le_trans (Nat.le_trans (by decide) hk) hn)) (cat_f F2.l.l.l) (cat_f F2.l.l) (h0 n μ hn) (cat_f F2.l) (cat_f F2) j1 (cat_f F.l) (cat_f F)
theorem tx_let (r : Bool) (hx : NT x) (ha : Tx k L a) (hb : Tx k L1 b) (hk : 5 ≤ k) (hL : L + L1 ≤ 900000) : Tx (k + 3) (L + L1 + 60) (vLet x a b r) := by
  obtain ⟨t0, hl0, h0⟩ := bt_ok hx ha hk (Nat.le_trans (Nat.le_add_right _ _) hL)
  obtain ⟨_, _, t1, rfl, hl1, h1⟩ := hb
  obtain ⟨_, _, t2, rfl, hl2, h2⟩ := ha
  cases r with
  | true =>
    have hT := Nat.le_trans (len2 (len2 l1 (len2 (len2 (len2 l6 hl0) l3) hl1)) l2) a5
    have F := s4 hL (by decide) hT
    refine ⟨_, _, _, rfl, hT, fun N μ hN => ?_⟩
    obtain ⟨n, rfl, hn⟩ := down 2 (k := k + 1) hN
    exact ct_letT (it_let_true (h0 n μ hn) (cat_f F.l.r.l.l) (cat_f F.l.r.l) (h1 n μ (Nat.le_of_succ_le hn)) (cat_f F.l.r)) (cat_f F.l) (cat_f F)
  | false =>
    have hT := Nat.le_trans (len2 (len2 l1 (len2 (len2 (len2 (Nat.le_trans l5 (by decide)) hl0) l3) hl1)) l2) a5
    have F := s4 hL (by decide) hT
    refine ⟨_, _, _, rfl, hT, fun N μ hN => ?_⟩
    obtain ⟨n, rfl, hn⟩ := down 2 (k := k + 1) hN
    exact ct_letF (it_let_false (h0 n μ hn) (cat_f F.l.r.l.l) (cat_f F.l.r.l) (h1 n μ (Nat.le_of_succ_le hn)) (cat_f F.l.r)) (cat_f F.l) (cat_f F)
end
end Mini
namespace Mini
theorem nts_len : ∀ {xs : List Str}, (∀ x ∈ xs, NT x) → sumLen xs ≤ 12 * xs.length
  | [], _ => Nat.le_refl 0
  | x :: r, h => Nat.le_trans (Nat.add_le_add (h x List.mem_cons_self).1 (nts_len fun y hy => h y (List.mem_cons_of_mem _ hy))) (Nat.le_of_eq ((Nat.add_comm _ _).trans (Nat.mul_succ 12 r.length).symm))
structure Row (xs : List Str) : Prop where
  join : prim 15 [.str (so " "), .list (xs.map .str)] = some (.val (.str (Txt.join (so " ") xs)))
  len : (so "(" ++ Txt.join (so " ") xs ++ so ")").length ≤ 130
  left : binop .Add (.str (so "(")) (.str (Txt.join (so " ") xs)) = some (.val (.str (so "(" ++ Txt.join (so " ") xs)))
  all : binop .Add (.str (so "(" ++ Txt.join (so " ") xs)) (.str (so ")")) = some (.val (.str (so "(" ++ Txt.join (so " ") xs ++ so ")")))
theorem row_of {xs : List Str} (h : ∀ x ∈ xs, NT x) (hl : xs.length ≤ 8) : Row xs := by
  obtain ⟨j1, j2⟩ := join_ok (nts_len h) (show 12 * xs.length + xs.length ≤ 1000000 by omega)
  have hT := len2 (len2 l1 j2) l2
  have hT : (so "(" ++ Txt.join (so " ") xs ++ so ")").length ≤ 130 := Nat.le_trans hT (by omega)
  have F : Fit _ := Nat.le_trans hT (by decide)
  exact ⟨j1, hT, cat_f F.l, cat_f F⟩
theorem NT.at {xs : List Str} (h : ∀ x ∈ xs, NT x) (i : Nat) {x : Str} (e : xs[i]? = some x) {N : Nat} {μ : Mu} (hN : 4 ≤ N) : callF W0 N 465 [.str x] μ = some (.val (.str x), μ) := (h x (List.mem_of_getElem? e)).2 N μ hN
theorem Ns.of {xs : List Str} (h : ∀ x ∈ xs, NT x) (hl : xs.length ≤ 8) (k : ∀ n μ, 4 ≤ n → Row xs → callF W0 (n + 1) 470 [.list (xs.map .str)] μ = some (.val (.str (so "(" ++ Txt.join (so " ") xs ++ so ")")), μ)) : Ns 130 (xs.map .str) :=
  ⟨_, (row_of h hl).len, fun N μ hN => by
    obtain ⟨n, rfl, hn⟩ := down 1 hN
    exact k n μ hn (row_of h hl)⟩
theorem ns_of : ∀ {xs : List Str}, (∀ x ∈ xs, NT x) → xs.length ≤ 8 → Ns 130 (xs.map .str)
  | [], _, _ => ⟨so "()", by decide, fun N μ hN => up hN fun n => by kernel_rfl⟩
  | [y0], h, l => .of h l fun n μ hn r => ns_1 (NT.at h 0 rfl hn) r.join r.left r.all
  | [y0, y1], h, l => .of h l fun n μ hn r => ns_2 (NT.at h 0 rfl hn) (NT.at h 1 rfl hn) r.join r.left r.all
  | [y0, y1, y2], h, l => .of h l fun n μ hn r => ns_3 (NT.at h 0 rfl hn) (NT.at h 1 rfl hn) (NT.at h 2 rfl hn) r.join r.left r.all
  | [y0, y1, y2, y3], h, l => .of h l fun n μ hn r => ns_4 (NT.at h 0 rfl hn) (NT.at h 1 rfl hn) (NT.at h 2 rfl hn) (NT.at h 3 rfl hn) r.join r.left r.all
  | [y0, y1, y2, y3, y4], h, l => .of h l fun n μ hn r => ns_5 (NT.at h 0 rfl hn) (NT.at h 1 rfl hn) (NT.at h 2 rfl hn) (NT.at h 3 rfl hn) (NT.at h 4 rfl hn) r.join r.left r.all
  | [y0, y1, y2, y3, y4, y5], h, l => .of h l fun n μ hn r => ns_6 (NT.at h 0 rfl hn) (NT.at h 1 rfl hn) (NT.at h 2 rfl hn) (NT.at h 3 rfl hn) (NT.at h 4 rfl hn) (NT.at h 5 rfl hn) r.join r.left r.all
  | [y0, y1, y2, y3, y4, y5, y6], h, l => .of h l fun n μ hn r => ns_7 (NT.at h 0 rfl hn) (NT.at h 1 rfl hn) (NT.at h 2 rfl hn) (NT.at h 3 rfl hn) (NT.at h 4 rfl hn) (NT.at h 5 rfl hn) (NT.at h 6 rfl hn) r.join r.left r.all
  | [y0, y1, y2, y3, y4, y5, y6, y7], h, l => .of h l fun n μ hn r => ns_8 (NT.at h 0 rfl hn) (NT.at h 1 rfl hn) (NT.at h 2 rfl hn) (NT.at h 3 rfl hn) (NT.at h 4 rfl hn) (NT.at h 5 rfl hn) (NT.at h 6 rfl hn) (NT.at h 7 rfl hn) r.join r.left r.all
  | _ :: _ :: _ :: _ :: _ :: _ :: _ :: _ :: _ :: r, _, h => absurd h (Nat.not_le_of_lt (Nat.le_add_left 9 r.length))
theorem b1 {a b : Nat} : 1 + (5 + a + 1 + 12 + 2 + 0 + 1 + 7 + b + 1) + 1 ≤ a + b + 60 := by omega
theorem b2 {a b : Nat} : 1 + (5 + a + 1 + 12 + 2 + (1 + 160 + 1 + b + 1 + 0 + 1) + 1) + 1 ≤ a + b + 300 := by omega
theorem b3 {a b : Nat} : 1 + (5 + a + 1 + 12 + 2 + (1 + 160 + 1 + b + 1 + 0 + 1) + 1 + 7 + 12 + 1) + 1 ≤ a + b + 400 := by omega
theorem b4 {a b : Nat} (h : a + b ≤ 800000) : 1 + 160 + 1 + b + 1 + 0 + 1 ≤ 1000000 := by omega
theorem b5 {a : Nat} : 1 + (4 + 12 + (a + 0) + 2) + 1 ≤ a + 60 := by omega
theorem b6 {a b : Nat} : 1 + (4 + 12 + (a + (b + 0)) + 3) + 1 ≤ a + b + 60 := by omega
theorem b7 {a b : Nat} (h : a + b ≤ 900000) : 4 + 12 + (a + (b + 0)) + 3 ≤ 1000000 := by omega
theorem big {a b : Nat} (h : a + b ≤ 800000) : a + b ≤ 900000 := Nat.le_trans h (by decide)
section
variable {k L L1 L2 Lp : Nat} {a b v : V} {ps : List V} {x c con : Str}
theorem NT.five (h : NT x) {k N : Nat} {μ : Mu} (hk : 5 ≤ k) (hN : k ≤ N) : callF W0 N 465 [.str x] μ = some (.val (.str x), μ) := h.2 N μ (Nat.le_trans (Nat.le_trans (by decide) hk) hN)
theorem tx_case0 (hx : NT c) (hv : Tx k L v) (hb : Tx k L1 b) (hk : 5 ≤ k) (hL : L + L1 ≤ 900000) : Tx (k + 3) (L + L1 + 60) (vCase v c [] b) := by
  obtain ⟨_, _, t0, rfl, hl0, h0⟩ := hv
  obtain ⟨_, _, t1, rfl, hl1, h1⟩ := hb
  have hT := Nat.le_trans (len2 (len2 l1 (len2 (len2 (len2 (len2 (len2 (len2 (len2 (len2 (len2 l7 hl0) l3) hx.1) l8) l13) l2) l9) hl1) l2)) l2) b1
  have F := s4 hL (by decide) hT
  have G := F.l.r.l.l.l
  refine ⟨_, _, _, rfl, hT, fun N μ hN => ?_⟩
  obtain ⟨n, rfl, hn⟩ := down 3 hN
  exact ct_case0 (it_case0 (cs_0 (h0 n μ hn) (cat_f G.l.l.l.l.l) (cat_f G.l.l.l.l) (hx.five hk hn) (cat_f G.l.l.l) (cat_f G.l.l) (cat_f G.l) (cat_f G) (cat_f F.l.r.l.l) (h1 n μ hn) (cat_f F.l.r.l) (cat_f F.l.r))) (cat_f F.l) (cat_f F)
inductive Kt (k : Nat) (con : Str) (ps : List V) (K : Addr) (f : List (Str × V)) : Prop
  | mk (t : Str) (len : t.length ≤ 160) (run : ∀ N μ, k + 1 ≤ N → callF W0 N 484 [vAlt con ps (.inst K f)] μ = some (.val (.str t), μ)) : Kt k con ps K f
theorem kt_ok (hc : NT con) (hp : Ns 130 ps) {K : Addr} {f : List (Str × V)} (hk : 5 ≤ k) : Kt k con ps K f := by
  obtain ⟨tp, hlp, hp⟩ := hp
  have hT := len2 (len2 (len2 l11 hc.1) l3) hlp
  have F : Fit _ := Nat.le_trans hT (by decide)
  refine ⟨_, Nat.le_trans hT (by decide), fun N μ hN => ?_⟩
  obtain ⟨n, rfl, hn⟩ := down 1 hN
  exact kt (hc.five hk hn) (cat_f F.l.l) (cat_f F.l) (hp n μ (Nat.le_trans hk hn)) (cat_f F)
theorem tx_case1n (hx : NT c) (hc : NT con) (hp : Ns 130 ps) (hv : Tx k L v) (hb : Tx k L1 b) (hk : 5 ≤ k) (hL : L + L1 ≤ 800000) : Tx (k + 4) (L + L1 + 300) (vCase v c [vAlt con ps b] .none) := by
  obtain ⟨_, _, t0, rfl, hl0, h0⟩ := hv
  obtain ⟨_, _, t1, rfl, hl1, h1⟩ := hb
  obtain ⟨t2, hl2, h2⟩ := kt_ok (k := k) hc hp hk
  have hi := len2 (len2 (len2 (len2 l1 hl2) l3) hl1) l2
  obtain ⟨j1, j2⟩ := join_ok (ts := [so "(" ++ t2 ++ so " " ++ t1 ++ so ")"]) (Nat.add_le_add hi (Nat.le_refl 0)) (b4 hL)
  have F2 : Fit (so "(" ++ t2 ++ so " " ++ t1 ++ so ")") := Nat.le_trans hi (Nat.le_trans (Nat.le_succ _) (Nat.le_trans (b4 hL) (show 1000000 ≤ 16000000 by decide)))
  have hT := Nat.le_trans (len2 (len2 l1 (len2 (len2 (len2 (len2 (len2 (len2 l7 hl0) l3) hx.1) l8) j2) l2)) l2) b2
  have F := s4 (big hL) (by decide) hT
  have G := F.l.r.l.l
  refine ⟨_, _, _, rfl, hT, fun N μ hN => ?_⟩
  obtain ⟨n, rfl, hn⟩ := down 3 (k := k + 1) hN
  have hm := Nat.le_of_succ_le hn
  exact ct_case1n (it_case1n (cs_1n (h2 n μ hn) (cat_f F2.l.l.l) (cat_f F2.l.l) (h1 n μ hm) (cat_f F2.l) (cat_f F2) j1 (h0 n μ hm) (cat_f G.l.l.l) (cat_f G.l.l) (hx.five hk hm) (cat_f G.l) (cat_f G) (cat_f F.l.r.l) (cat_f F.l.r))) (cat_f F.l) (cat_f F)
theorem tx_case1o (hx : NT c) (hc : NT con) (hp : Ns 130 ps) (hv : Tx k L v) (hb : Tx k L1 b) (hk : 5 ≤ k) (hL : L + L1 ≤ 800000) : Tx (k + 4) (L + L1 + 400) (vCase v c [vAlt con ps b] (vLit 0)) := by
  obtain ⟨_, _, t0, rfl, hl0, h0⟩ := hv
  obtain ⟨_, _, t1, rfl, hl1, h1⟩ := hb
  obtain ⟨_, _, t3, e3, hl3, h3⟩ := tx_lit0
  obtain ⟨t2, hl2, h2⟩ := kt_ok (k := k) hc hp hk
  have hi := len2 (len2 (len2 (len2 l1 hl2) l3) hl1) l2
  obtain ⟨j1, j2⟩ := join_ok (ts := [so "(" ++ t2 ++ so " " ++ t1 ++ so ")"]) (Nat.add_le_add hi (Nat.le_refl 0)) (b4 hL)
  have F2 : Fit (so "(" ++ t2 ++ so " " ++ t1 ++ so ")") := Nat.le_trans hi (Nat.le_trans (Nat.le_succ _) (Nat.le_trans (b4 hL) (show 1000000 ≤ 16000000 by decide)))
  have hT := Nat.le_trans (len2 (len2 l1 (len2 (len2 (len2 (len2 (len2 (len2 (len2 (len2 (len2 l7 hl0) l3) hx.1) l8) j2) l2) l9) hl3) l2)) l2) b3
  have F := s4 (big hL) (Nat.le_refl 400) hT
  have W := F.l.r.l.l.l
  have G := W.l.l
  refine ⟨_, _, _, rfl, hT, fun N μ hN => ?_⟩
  obtain ⟨n, rfl, hn⟩ := down 3 (k := k + 1) hN
  have hm := Nat.le_of_succ_le hn
  exact ct_case1o (it_case1o (cs_1o (h2 n μ hn) (cat_f F2.l.l.l) (cat_f F2.l.l) (h1 n μ hm) (cat_f F2.l) (cat_f F2) j1 (h0 n μ hm) (cat_f G.l.l.l) (cat_f G.l.l) (hx.five hk hm) (cat_f G.l) (cat_f G) (cat_f W.l) (cat_f W) (cat_f F.l.r.l.l) (h3 n μ (Nat.le_trans hk hm)) (cat_f F.l.r.l) (cat_f F.l.r))) (cat_f F.l) (cat_f F)
theorem tx_con1 (hc : NT con) (ha : Tx k L a) (hk : 5 ≤ k) (hL : L ≤ 900000) : Tx (k + 3) (L + 60) (vCon con [a]) := by
  obtain ⟨_, _, t0, rfl, hl0, h0⟩ := ha
  have hi := len2 l10 hc.1
  have F2 : Fit (so "con " ++ con) := Nat.le_trans hi (by decide)
  obtain ⟨j1, j2⟩ := join_ok (ts := [so "con " ++ con, t0]) (Nat.add_le_add hi (Nat.add_le_add hl0 (Nat.le_refl 0))) (Nat.le_trans (Nat.le_of_eq (Nat.add_right_comm _ _ _)) (Nat.add_le_add (Nat.le_refl 18) (Nat.le_trans hL (show 900000 ≤ 999982 by decide))))
  have hT := Nat.le_trans (len2 (len2 l1 j2) l2) b5
  have F := s4 (b := 0) hL (by decide) hT
  refine ⟨_, _, _, rfl, hT, fun N μ hN => ?_⟩
  obtain ⟨n, rfl, hn⟩ := down 3 hN
  exact ct_con1 (it_con1 (hc.five hk (le1 hn)) (cat_f F2) (rt_1 (h0 n μ hn) rfl j1)) (cat_f F.l) (cat_f F)
theorem tx_con2 (hc : NT con) (ha : Tx k L a) (hb : Tx k L1 b) (hk : 5 ≤ k) (hL : L + L1 ≤ 900000) : Tx (k + 3) (L + L1 + 60) (vCon con [a, b]) := by
  obtain ⟨_, _, t0, rfl, hl0, h0⟩ := ha
  obtain ⟨_, _, t1, rfl, hl1, h1⟩ := hb
  have hi := len2 l10 hc.1
  have F2 : Fit (so "con " ++ con) := Nat.le_trans hi (by decide)
  obtain ⟨j1, j2⟩ := join_ok (ts := [so "con " ++ con, t0, t1]) (Nat.add_le_add hi (Nat.add_le_add hl0 (Nat.add_le_add hl1 (Nat.le_refl 0)))) (b7 hL)
  have hT := Nat.le_trans (len2 (len2 l1 j2) l2) b6
  have F := s4 hL (by decide) hT
  refine ⟨_, _, _, rfl, hT, fun N μ hN => ?_⟩
  obtain ⟨n, rfl, hn⟩ := down 3 hN
  exact ct_con2 (it_con2 (hc.five hk (le1 hn)) (cat_f F2) (rt_2 (h0 n μ hn) (h1 n μ hn) rfl j1)) (cat_f F.l) (cat_f F)
end
end Mini
namespace Mini
noncomputable def scrS : Scope := scopeOf (stmtAt 14)
noncomputable def scrW : Stmt := nthD noStmt (bodyOf (stmtAt 14)) 1
noncomputable def scrT : Expr := match scrW with
  | .While t _ _ _ => t
  | _ => .Constant .none 0 ⟨0, 0, 0, 0⟩
noncomputable def scrB : List Stmt := match scrW with
  | .While _ b _ _ => b
  | _ => []
noncomputable def scrBody (σ : St) : P.Ans (Fl × St) := (blk W0 scrS 7).fl scrB σ
noncomputable def whileS (C : CallT) (k : Nat) (σ : St) : Option (Fl × St) := P.run C (whileM (evs 40 scrS) scrT scrBody k σ)
inductive J where
  | a | b | c
noncomputable def nx : J → J
  | .a => .b
  | j => j
noncomputable def SJ (j : J) (v0 : V) (cs : List (Str × V)) (ws : List V) (fs : List (Str × V)) (μ : Mu) (h a : V) : St := (match j with
  | .a => [(so "expr", .val v0), (so "cons", .val (.dictS cs)), (so "waiting", .own (.list ws)), (so "found", .own (.dictS fs))]
  | .b => [(so "expr", .val v0), (so "cons", .val (.dictS cs)), (so "waiting", .own (.list ws)), (so "found", .own (.dictS fs)), (so "here", .val h)]
  | .c => [(so "expr", .val v0), (so "cons", .val (.dictS cs)), (so "waiting", .own (.list ws)), (so "found", .own (.dictS fs)), (so "here", .val h), (so "alt", .val a)], μ)
theorem test_J {R : Type} {j : J} {v0 h a : V} {cs fs : List (Str × V)} {ws : List V} {μ : Mu} (k : Bool → St → P.Ans R) : (evs 40 scrS).b scrT (SJ j v0 cs ws fs μ h a) k = P.askB (.have (!ws.isEmpty)) fun b => k b (SJ j v0 cs ws fs μ h a) := by cases j <;> kernel_rfl
theorem step_play (md : P.Md) {C : CallT} {k : Nat} {j : J} {v0 h a : V} {cs fs : List (Str × V)} {ws : List V} {μ : Mu} {σ : St} (h0 : some (!ws.isEmpty) = some true) (as : List P.An) {Ob : Prop} (hO : Ob) (e : P.play C md (scrBody (SJ j v0 cs ws fs μ h a)) as P.fin = (Ob, some (.next, σ))) : whileS C (k + 1) (SJ j v0 cs ws fs μ h a) = whileS C k σ := by
  show P.run C ((evs 40 scrS).b scrT (SJ j v0 cs ws fs μ h a) fun b σ₁ => P.br b ((scrBody σ₁).bind fun p => flow p (whileM (evs 40 scrS) scrT scrBody k) fun sl σ' => .ret (.ret sl, σ')) (.ret (.next, σ₁))) = _
  rw [test_J, show (!ws.isEmpty) = true from Option.some.inj h0]
  show P.run C ((scrBody _).bind _) = _
  rw [run_bind, P.play_eq as hO e]
  rfl
section
variable {n : Nat} {μ : Mu} {k1 k2 k3 : Addr} {f1 f2 f3 : List (Str × V)}
noncomputable def tup (v : V) (ix : List V) : V := .tuple [v, .tuple ix]
theorem pa_var (x : Str) : callF W0 (n + 1) 49 [vVar (.str x)] μ = some (.own (.list []), μ) := by kernel_rfl
theorem pa_lit (i : Int) : callF W0 (n + 1) 91 [vLit i] μ = some (.own (.list []), μ) := by kernel_rfl
theorem pa_app2 : callF W0 (n + 1) 131 [vApp (.inst k1 f1) [.inst k2 f2, .inst k3 f3]] μ = some (.own (.list [tup (.inst k1 f1) [], tup (.inst k2 f2) [], tup (.inst k3 f3) []]), μ) := by kernel_rfl
theorem pa_app1 : callF W0 (n + 1) 131 [vApp (.inst k1 f1) [.inst k2 f2]] μ = some (.own (.list [tup (.inst k1 f1) [], tup (.inst k2 f2) []]), μ) := by kernel_rfl
theorem pa_lam (ps : List V) : callF W0 (n + 1) 173 [vLam ps (.inst k1 f1)] μ = some (.own (.list [tup (.inst k1 f1) [.int 0]]), μ) := by kernel_rfl
theorem pa_letT (x : Str) : callF W0 (n + 1) 211 [vLet x (.inst k1 f1) (.inst k2 f2) true] μ = some (.own (.list [tup (.inst k1 f1) [.int 0], tup (.inst k2 f2) [.int 0]]), μ) := by kernel_rfl
theorem pa_letF (x : Str) : callF W0 (n + 1) 211 [vLet x (.inst k1 f1) (.inst k2 f2) false] μ = some (.own (.list [tup (.inst k1 f1) [], tup (.inst k2 f2) [.int 0]]), μ) := by kernel_rfl
theorem pa_case0 (c : Str) : callF W0 (n + 1) 272 [vCase (.inst k1 f1) c [] (.inst k2 f2)] μ = some (.own (.list [tup (.inst k1 f1) [], tup (.inst k2 f2) [.int 0]]), μ) := by kernel_rfl
theorem pa_case1n (c con : Str) (us : List V) : callF W0 (n + 1) 272 [vCase (.inst k1 f1) c [vAlt con us (.inst k2 f2)] .none] μ = some (.val (.list [tup (.inst k1 f1) [], tup (.inst k2 f2) [.int 0, .int 1]]), μ) := by kernel_rfl
theorem pa_case1o (c con : Str) (us : List V) : callF W0 (n + 1) 272 [vCase (.inst k1 f1) c [vAlt con us (.inst k2 f2)] (vLit 0)] μ = some (.own (.list [tup (.inst k1 f1) [], tup (.inst k2 f2) [.int 0, .int 1], tup (vLit 0) [.int 0]]), μ) := by kernel_rfl
end
end Mini
namespace Mini
noncomputable def mdW : P.Md := { md0 with cmp := fun op => (match op with | .NotEq => true | _ => false), own := true, get := true, put := true }
section
variable {n k : Nat} {k1 k2 k3 : Addr} {f1 f2 f3 fs fs1 cs : List (Str × V)} {ws ws1 ws2 ps : List V} {v0 v1 v2 v3 cv hh aa : V} {j : J} {μ0 : Mu} {x c con : Str}
theorem st_var (h0 : some (!ws.isEmpty) = some true) (h1 : ownDo .pop (.list ws) [] = some (.list ws1, vVar (.str x))) (h2 : callF W0 n 49 [vVar (.str x)] μ0 = some (.own (.list []), μ0)) (h3 : ownDo .extend (.list ws1) [.list []] = some (.list ws2, .none)) : whileS (callF W0 n) (k + 1) (SJ j v0 cs ws fs μ0 hh aa) = whileS (callF W0 n) k (SJ (nx j) v0 cs ws2 fs μ0 (vVar (.str x)) aa) := by
  exact step_play mdW h0 [.pair (.list ws1) (vVar (.str x)), .call (.own (.list [])) μ0, .pair (.list ws2) .none] (ai h1 (ai h2 (ai h3 trivial))) (by cases j <;> kernel_rfl)
theorem st_lit (h0 : some (!ws.isEmpty) = some true) (h1 : ownDo .pop (.list ws) [] = some (.list ws1, vLit 3)) (h2 : callF W0 n 91 [vLit 3] μ0 = some (.own (.list []), μ0)) (h3 : ownDo .extend (.list ws1) [.list []] = some (.list ws2, .none)) : whileS (callF W0 n) (k + 1) (SJ j v0 cs ws fs μ0 hh aa) = whileS (callF W0 n) k (SJ (nx j) v0 cs ws2 fs μ0 (vLit 3) aa) := by
  exact step_play mdW h0 [.pair (.list ws1) (vLit 3), .call (.own (.list [])) μ0, .pair (.list ws2) .none] (ai h1 (ai h2 (ai h3 trivial))) (by cases j <;> kernel_rfl)
theorem st_lit0 (h0 : some (!ws.isEmpty) = some true) (h1 : ownDo .pop (.list ws) [] = some (.list ws1, vLit 0)) (h2 : callF W0 n 91 [vLit 0] μ0 = some (.own (.list []), μ0)) (h3 : ownDo .extend (.list ws1) [.list []] = some (.list ws2, .none)) : whileS (callF W0 n) (k + 1) (SJ j v0 cs ws fs μ0 hh aa) = whileS (callF W0 n) k (SJ (nx j) v0 cs ws2 fs μ0 (vLit 0) aa) := by
  exact step_play mdW h0 [.pair (.list ws1) (vLit 0), .call (.own (.list [])) μ0, .pair (.list ws2) .none] (ai h1 (ai h2 (ai h3 trivial))) (by cases j <;> kernel_rfl)
theorem st_app2 (h0 : some (!ws.isEmpty) = some true) (h1 : ownDo .pop (.list ws) [] = some (.list ws1, vApp (.inst k1 f1) [.inst k2 f2, .inst k3 f3])) (h2 : callF W0 n 131 [vApp (.inst k1 f1) [.inst k2 f2, .inst k3 f3]] μ0 = some (.own (.list [.tuple [.inst k1 f1, .tuple []], .tuple [.inst k2 f2, .tuple []], .tuple [.inst k3 f3, .tuple []]]), μ0)) (h3 : ownDo .extend (.list ws1) [.list [.inst k1 f1, .inst k2 f2, .inst k3 f3]] = some (.list ws2, .none)) : whileS (callF W0 n) (k + 1) (SJ j v0 cs ws fs μ0 hh aa) = whileS (callF W0 n) k (SJ (nx j) v0 cs ws2 fs μ0 (vApp (.inst k1 f1) [.inst k2 f2, .inst k3 f3]) aa) := by
  exact step_play mdW h0 [.pair (.list ws1) (vApp (.inst k1 f1) [.inst k2 f2, .inst k3 f3]), .call (.own (.list [.tuple [.inst k1 f1, .tuple []], .tuple [.inst k2 f2, .tuple []], .tuple [.inst k3 f3, .tuple []]])) μ0, .pair (.list ws2) .none] (ai h1 (ai h2 (ai h3 trivial))) (by cases j <;> kernel_rfl)
theorem st_app1 (h0 : some (!ws.isEmpty) = some true) (h1 : ownDo .pop (.list ws) [] = some (.list ws1, vApp (.inst k1 f1) [.inst k2 f2])) (h2 : callF W0 n 131 [vApp (.inst k1 f1) [.inst k2 f2]] μ0 = some (.own (.list [.tuple [.inst k1 f1, .tuple []], .tuple [.inst k2 f2, .tuple []]]), μ0)) (h3 : ownDo .extend (.list ws1) [.list [.inst k1 f1, .inst k2 f2]] = some (.list ws2, .none)) : whileS (callF W0 n) (k + 1) (SJ j v0 cs ws fs μ0 hh aa) = whileS (callF W0 n) k (SJ (nx j) v0 cs ws2 fs μ0 (vApp (.inst k1 f1) [.inst k2 f2]) aa) := by
  exact step_play mdW h0 [.pair (.list ws1) (vApp (.inst k1 f1) [.inst k2 f2]), .call (.own (.list [.tuple [.inst k1 f1, .tuple []], .tuple [.inst k2 f2, .tuple []]])) μ0, .pair (.list ws2) .none] (ai h1 (ai h2 (ai h3 trivial))) (by cases j <;> kernel_rfl)
theorem st_lam (h0 : some (!ws.isEmpty) = some true) (h1 : ownDo .pop (.list ws) [] = some (.list ws1, vLam ps (.inst k1 f1))) (h2 : callF W0 n 173 [vLam ps (.inst k1 f1)] μ0 = some (.own (.list [.tuple [.inst k1 f1, .tuple [.int 0]]]), μ0)) (h3 : ownDo .extend (.list ws1) [.list [.inst k1 f1]] = some (.list ws2, .none)) : whileS (callF W0 n) (k + 1) (SJ j v0 cs ws fs μ0 hh aa) = whileS (callF W0 n) k (SJ (nx j) v0 cs ws2 fs μ0 (vLam ps (.inst k1 f1)) aa) := by
  exact step_play mdW h0 [.pair (.list ws1) (vLam ps (.inst k1 f1)), .call (.own (.list [.tuple [.inst k1 f1, .tuple [.int 0]]])) μ0, .pair (.list ws2) .none] (ai h1 (ai h2 (ai h3 trivial))) (by cases j <;> kernel_rfl)
theorem st_letT (h0 : some (!ws.isEmpty) = some true) (h1 : ownDo .pop (.list ws) [] = some (.list ws1, vLet x (.inst k1 f1) (.inst k2 f2) true)) (h2 : callF W0 n 211 [vLet x (.inst k1 f1) (.inst k2 f2) true] μ0 = some (.own (.list [.tuple [.inst k1 f1, .tuple [.int 0]], .tuple [.inst k2 f2, .tuple [.int 0]]]), μ0)) (h3 : ownDo .extend (.list ws1) [.list [.inst k1 f1, .inst k2 f2]] = some (.list ws2, .none)) : whileS (callF W0 n) (k + 1) (SJ j v0 cs ws fs μ0 hh aa) = whileS (callF W0 n) k (SJ (nx j) v0 cs ws2 fs μ0 (vLet x (.inst k1 f1) (.inst k2 f2) true) aa) := by
  exact step_play mdW h0 [.pair (.list ws1) (vLet x (.inst k1 f1) (.inst k2 f2) true), .call (.own (.list [.tuple [.inst k1 f1, .tuple [.int 0]], .tuple [.inst k2 f2, .tuple [.int 0]]])) μ0, .pair (.list ws2) .none] (ai h1 (ai h2 (ai h3 trivial))) (by cases j <;> kernel_rfl)
theorem st_letF (h0 : some (!ws.isEmpty) = some true) (h1 : ownDo .pop (.list ws) [] = some (.list ws1, vLet x (.inst k1 f1) (.inst k2 f2) false)) (h2 : callF W0 n 211 [vLet x (.inst k1 f1) (.inst k2 f2) false] μ0 = some (.own (.list [.tuple [.inst k1 f1, .tuple []], .tuple [.inst k2 f2, .tuple [.int 0]]]), μ0)) (h3 : ownDo .extend (.list ws1) [.list [.inst k1 f1, .inst k2 f2]] = some (.list ws2, .none)) : whileS (callF W0 n) (k + 1) (SJ j v0 cs ws fs μ0 hh aa) = whileS (callF W0 n) k (SJ (nx j) v0 cs ws2 fs μ0 (vLet x (.inst k1 f1) (.inst k2 f2) false) aa) := by
  exact step_play mdW h0 [.pair (.list ws1) (vLet x (.inst k1 f1) (.inst k2 f2) false), .call (.own (.list [.tuple [.inst k1 f1, .tuple []], .tuple [.inst k2 f2, .tuple [.int 0]]])) μ0, .pair (.list ws2) .none] (ai h1 (ai h2 (ai h3 trivial))) (by cases j <;> kernel_rfl)
theorem st_case0 (h0 : some (!ws.isEmpty) = some true) (h1 : ownDo .pop (.list ws) [] = some (.list ws1, vCase (vVar (.str x)) c [] (.inst k2 f2))) (h2 : callF W0 n 272 [vCase (vVar (.str x)) c [] (.inst k2 f2)] μ0 = some (.own (.list [.tuple [vVar (.str x), .tuple []], .tuple [.inst k2 f2, .tuple [.int 0]]]), μ0)) (h3 : ownDo .extend (.list ws1) [.list [vVar (.str x), .inst k2 f2]] = some (.list ws2, .none)) : whileS (callF W0 n) (k + 1) (SJ j v0 cs ws fs μ0 hh aa) = whileS (callF W0 n) k (SJ (nx j) v0 cs ws2 fs μ0 (vCase (vVar (.str x)) c [] (.inst k2 f2)) aa) := by
  exact step_play mdW h0 [.pair (.list ws1) (vCase (vVar (.str x)) c [] (.inst k2 f2)), .call (.own (.list [.tuple [vVar (.str x), .tuple []], .tuple [.inst k2 f2, .tuple [.int 0]]])) μ0, .pair (.list ws2) .none] (ai h1 (ai h2 (ai h3 trivial))) (by cases j <;> kernel_rfl)
theorem st_caseAn (h0 : some (!ws.isEmpty) = some true) (h1 : ownDo .pop (.list ws) [] = some (.list ws1, vCase (vApp (.inst k1 f1) [.inst k3 f3]) c [vAlt con ps (.inst k2 f2)] .none)) (h2 : callF W0 n 272 [vCase (vApp (.inst k1 f1) [.inst k3 f3]) c [vAlt con ps (.inst k2 f2)] .none] μ0 = some (.val (.list [.tuple [vApp (.inst k1 f1) [.inst k3 f3], .tuple []], .tuple [.inst k2 f2, .tuple [.int 0, .int 1]]]), μ0)) (h3 : ownDo .extend (.list ws1) [.list [vApp (.inst k1 f1) [.inst k3 f3], .inst k2 f2]] = some (.list ws2, .none)) : whileS (callF W0 n) (k + 1) (SJ j v0 cs ws fs μ0 hh aa) = whileS (callF W0 n) k (SJ (nx j) v0 cs ws2 fs μ0 (vCase (vApp (.inst k1 f1) [.inst k3 f3]) c [vAlt con ps (.inst k2 f2)] .none) aa) := by
  exact step_play mdW h0 [.pair (.list ws1) (vCase (vApp (.inst k1 f1) [.inst k3 f3]) c [vAlt con ps (.inst k2 f2)] .none), .call (.val (.list [.tuple [vApp (.inst k1 f1) [.inst k3 f3], .tuple []], .tuple [.inst k2 f2, .tuple [.int 0, .int 1]]])) μ0, .pair (.list ws2) .none] (ai h1 (ai h2 (ai h3 trivial))) (by cases j <;> kernel_rfl)
theorem st_caseAo (h0 : some (!ws.isEmpty) = some true) (h1 : ownDo .pop (.list ws) [] = some (.list ws1, vCase (vApp (.inst k1 f1) [.inst k3 f3]) c [vAlt con ps (.inst k2 f2)] (vLit 0))) (h2 : callF W0 n 272 [vCase (vApp (.inst k1 f1) [.inst k3 f3]) c [vAlt con ps (.inst k2 f2)] (vLit 0)] μ0 = some (.own (.list [.tuple [vApp (.inst k1 f1) [.inst k3 f3], .tuple []], .tuple [.inst k2 f2, .tuple [.int 0, .int 1]], .tuple [vLit 0, .tuple [.int 0]]]), μ0)) (h3 : ownDo .extend (.list ws1) [.list [vApp (.inst k1 f1) [.inst k3 f3], .inst k2 f2, vLit 0]] = some (.list ws2, .none)) : whileS (callF W0 n) (k + 1) (SJ j v0 cs ws fs μ0 hh aa) = whileS (callF W0 n) k (SJ (nx j) v0 cs ws2 fs μ0 (vCase (vApp (.inst k1 f1) [.inst k3 f3]) c [vAlt con ps (.inst k2 f2)] (vLit 0)) aa) := by
  exact step_play mdW h0 [.pair (.list ws1) (vCase (vApp (.inst k1 f1) [.inst k3 f3]) c [vAlt con ps (.inst k2 f2)] (vLit 0)), .call (.own (.list [.tuple [vApp (.inst k1 f1) [.inst k3 f3], .tuple []], .tuple [.inst k2 f2, .tuple [.int 0, .int 1]], .tuple [vLit 0, .tuple [.int 0]]])) μ0, .pair (.list ws2) .none] (ai h1 (ai h2 (ai h3 trivial))) (by cases j <;> kernel_rfl)
theorem st_caseNn (h0 : some (!ws.isEmpty) = some true) (h1 : ownDo .pop (.list ws) [] = some (.list ws1, vCase (vVar (.str x)) c [vAlt con ps (.inst k2 f2)] .none)) (h2 : getItemM (.tuple [.str (so "con"), .str con]) (.int 0) = some (.str (so "con"))) (h3 : getItemM (.tuple [.str (so "con"), .str con]) (.int 1) = some (.str con)) (h4 : getItemM (.dictS cs) (.str con) = some cv) (h5 : callF W0 n 394 [cv] μ0 = some (.val (.bool false), μ0)) (h6 : callF W0 n 272 [vCase (vVar (.str x)) c [vAlt con ps (.inst k2 f2)] .none] μ0 = some (.val (.list [.tuple [vVar (.str x), .tuple []], .tuple [.inst k2 f2, .tuple [.int 0, .int 1]]]), μ0)) (h7 : ownDo .extend (.list ws1) [.list [vVar (.str x), .inst k2 f2]] = some (.list ws2, .none)) : whileS (callF W0 n) (k + 1) (SJ j v0 cs ws fs μ0 hh aa) = whileS (callF W0 n) k (SJ .c v0 cs ws2 fs μ0 (vCase (vVar (.str x)) c [vAlt con ps (.inst k2 f2)] .none) (vAlt con ps (.inst k2 f2))) := by
  exact step_play mdW h0 [.pair (.list ws1) (vCase (vVar (.str x)) c [vAlt con ps (.inst k2 f2)] .none), .val (.str (so "con")), .val (.str con), .val cv, .call (.val (.bool false)) μ0, .call (.val (.list [.tuple [vVar (.str x), .tuple []], .tuple [.inst k2 f2, .tuple [.int 0, .int 1]]])) μ0, .pair (.list ws2) .none] (aq h1 h2 h3 h4 (ai h5 (ai h6 (ai h7 trivial)))) (by cases j <;> kernel_rfl)
theorem st_caseYn (h0 : some (!ws.isEmpty) = some true) (h1 : ownDo .pop (.list ws) [] = some (.list ws1, vCase (vVar (.str x)) c [vAlt con ps (.inst k2 f2)] .none)) (h2 : getItemM (.tuple [.str (so "con"), .str con]) (.int 0) = some (.str (so "con"))) (h3 : getItemM (.tuple [.str (so "con"), .str con]) (.int 1) = some (.str con)) (h4 : getItemM (.dictS cs) (.str con) = some cv) (h5 : callF W0 n 394 [cv] μ0 = some (.val (.bool true), μ0)) (h6 : getItemM (.tuple [.str (so "con"), .str con]) (.int 1) = some (.str con)) (h7 : putItem (.dictS fs) (.str x) (.str con) = some (.dictS fs1)) (h8 : callF W0 n 272 [vCase (vVar (.str x)) c [vAlt con ps (.inst k2 f2)] .none] μ0 = some (.val (.list [.tuple [vVar (.str x), .tuple []], .tuple [.inst k2 f2, .tuple [.int 0, .int 1]]]), μ0)) (h9 : ownDo .extend (.list ws1) [.list [vVar (.str x), .inst k2 f2]] = some (.list ws2, .none)) : whileS (callF W0 n) (k + 1) (SJ j v0 cs ws fs μ0 hh aa) = whileS (callF W0 n) k (SJ .c v0 cs ws2 fs1 μ0 (vCase (vVar (.str x)) c [vAlt con ps (.inst k2 f2)] .none) (vAlt con ps (.inst k2 f2))) := by
  exact step_play mdW h0 [.pair (.list ws1) (vCase (vVar (.str x)) c [vAlt con ps (.inst k2 f2)] .none), .val (.str (so "con")), .val (.str con), .val cv, .call (.val (.bool true)) μ0, .val (.str con), .val (.dictS fs1), .call (.val (.list [.tuple [vVar (.str x), .tuple []], .tuple [.inst k2 f2, .tuple [.int 0, .int 1]]])) μ0, .pair (.list ws2) .none] (ah h1 h2 h3 h4 h5 h6 h7 h8 (ai h9 trivial)) (by cases j <;> kernel_rfl)
theorem st_caseNo (h0 : some (!ws.isEmpty) = some true) (h1 : ownDo .pop (.list ws) [] = some (.list ws1, vCase (vVar (.str x)) c [vAlt con ps (.inst k2 f2)] (vLit 0))) (h2 : getItemM (.tuple [.str (so "con"), .str con]) (.int 0) = some (.str (so "con"))) (h3 : getItemM (.tuple [.str (so "con"), .str con]) (.int 1) = some (.str con)) (h4 : getItemM (.dictS cs) (.str con) = some cv) (h5 : callF W0 n 394 [cv] μ0 = some (.val (.bool false), μ0)) (h6 : callF W0 n 272 [vCase (vVar (.str x)) c [vAlt con ps (.inst k2 f2)] (vLit 0)] μ0 = some (.own (.list [.tuple [vVar (.str x), .tuple []], .tuple [.inst k2 f2, .tuple [.int 0, .int 1]], .tuple [vLit 0, .tuple [.int 0]]]), μ0)) (h7 : ownDo .extend (.list ws1) [.list [vVar (.str x), .inst k2 f2, vLit 0]] = some (.list ws2, .none)) : whileS (callF W0 n) (k + 1) (SJ j v0 cs ws fs μ0 hh aa) = whileS (callF W0 n) k (SJ .c v0 cs ws2 fs μ0 (vCase (vVar (.str x)) c [vAlt con ps (.inst k2 f2)] (vLit 0)) (vAlt con ps (.inst k2 f2))) := by
  exact step_play mdW h0 [.pair (.list ws1) (vCase (vVar (.str x)) c [vAlt con ps (.inst k2 f2)] (vLit 0)), .val (.str (so "con")), .val (.str con), .val cv, .call (.val (.bool false)) μ0, .call (.own (.list [.tuple [vVar (.str x), .tuple []], .tuple [.inst k2 f2, .tuple [.int 0, .int 1]], .tuple [vLit 0, .tuple [.int 0]]])) μ0, .pair (.list ws2) .none] (aq h1 h2 h3 h4 (ai h5 (ai h6 (ai h7 trivial)))) (by cases j <;> kernel_rfl)
theorem st_caseYo (h0 : some (!ws.isEmpty) = some true) (h1 : ownDo .pop (.list ws) [] = some (.list ws1, vCase (vVar (.str x)) c [vAlt con ps (.inst k2 f2)] (vLit 0))) (h2 : getItemM (.tuple [.str (so "con"), .str con]) (.int 0) = some (.str (so "con"))) (h3 : getItemM (.tuple [.str (so "con"), .str con]) (.int 1) = some (.str con)) (h4 : getItemM (.dictS cs) (.str con) = some cv) (h5 : callF W0 n 394 [cv] μ0 = some (.val (.bool true), μ0)) (h6 : getItemM (.tuple [.str (so "con"), .str con]) (.int 1) = some (.str con)) (h7 : putItem (.dictS fs) (.str x) (.str con) = some (.dictS fs1)) (h8 : callF W0 n 272 [vCase (vVar (.str x)) c [vAlt con ps (.inst k2 f2)] (vLit 0)] μ0 = some (.own (.list [.tuple [vVar (.str x), .tuple []], .tuple [.inst k2 f2, .tuple [.int 0, .int 1]], .tuple [vLit 0, .tuple [.int 0]]]), μ0)) (h9 : ownDo .extend (.list ws1) [.list [vVar (.str x), .inst k2 f2, vLit 0]] = some (.list ws2, .none)) : whileS (callF W0 n) (k + 1) (SJ j v0 cs ws fs μ0 hh aa) = whileS (callF W0 n) k (SJ .c v0 cs ws2 fs1 μ0 (vCase (vVar (.str x)) c [vAlt con ps (.inst k2 f2)] (vLit 0)) (vAlt con ps (.inst k2 f2))) := by
  exact step_play mdW h0 [.pair (.list ws1) (vCase (vVar (.str x)) c [vAlt con ps (.inst k2 f2)] (vLit 0)), .val (.str (so "con")), .val (.str con), .val cv, .call (.val (.bool true)) μ0, .val (.str con), .val (.dictS fs1), .call (.own (.list [.tuple [vVar (.str x), .tuple []], .tuple [.inst k2 f2, .tuple [.int 0, .int 1]], .tuple [vLit 0, .tuple [.int 0]]])) μ0, .pair (.list ws2) .none] (ah h1 h2 h3 h4 h5 h6 h7 h8 (ai h9 trivial)) (by cases j <;> kernel_rfl)
end
end Mini
namespace Mini
noncomputable def vInfo (name : Str) (ar : Int) (st : List V) (sib : Int) (nt : Bool) : V := .inst 530 [(so "name", .str name), (so "tag", .int 0), (so "arity", .int ar), (so "stricts", .list st), (so "type_name", .str (so "T")), (so "scheme", .none), (so "siblings", .int sib), (so "is_newtype", .bool nt)]
noncomputable def consL : List (Str × V) := [(so "Two", vInfo (so "Two") 2 [.bool false, .bool false] 1 false), (so "One", vInfo (so "One") 1 [.bool false] 1 false), (so "None", vInfo (so "None") 0 [] 1 false), (so "Left", vInfo (so "Left") 1 [.bool false] 2 false), (so "New", vInfo (so "New") 1 [.bool false] 1 true)]
theorem cons_spec {n : Nat} {μ : Mu} : callF W0 (n + 2) 639 [] μ = some (.own (.dictS consL), μ) := by kernel_rfl
noncomputable def conNames : List Str := [so "Two", so "One", so "None", so "Left", so "New"]
noncomputable def aloneC (c : Str) : Bool := c == so "Two" || c == so "One"
theorem con_info {c : Str} (h : c ∈ conNames) : ∃ cv, look c consL = some cv ∧ ∀ n μ, callF W0 (n + 1) 394 [cv] μ = some (.val (.bool (aloneC c)), μ) := by
  have key : ∀ l : List Str, ((l.map fun c => (look c consL).isSome) = l.map fun _ => true) → (∀ n μ, (l.map fun c => callF W0 (n + 1) 394 [(look c consL).getD .none] μ) = l.map fun c => some (.val (.bool (aloneC c)), μ)) → ∀ c ∈ l, ∃ cv, look c consL = some cv ∧ ∀ n μ, callF W0 (n + 1) 394 [cv] μ = some (.val (.bool (aloneC c)), μ) := fun l h1 h2 c hc => by
    obtain ⟨cv, e⟩ := Option.isSome_iff_exists.mp (List.map_inj_left.mp h1 c hc)
    exact ⟨cv, e, fun n μ => by have := List.map_inj_left.mp (h2 n μ) c hc; rw [e] at this; exact this⟩
  exact key conNames rfl (fun n μ => by kernel_rfl) c h
inductive Sh (v0 : V) (ws : List V) (fs : List (Str × V)) (μ : Mu) : St → Prop
  | mk (j : J) (h a : V) : Sh v0 ws fs μ (SJ j v0 consL ws fs μ h a)
noncomputable def foldP (fs : List (Str × V)) (vis : List (Str × Str)) : List (Str × V) := vis.foldl (fun acc p => put p.1 (.str p.2) acc) fs
theorem foldP_append (fs : List (Str × V)) (a b : List (Str × Str)) : foldP fs (a ++ b) = foldP (foldP fs a) b := List.foldl_append ..
theorem foldP_length : ∀ (vis : List (Str × Str)) (fs : List (Str × V)), (foldP fs vis).length ≤ fs.length + vis.length
  | [], fs => Nat.le_refl _
  | p :: r, fs => by
    have h1 := foldP_length r (put p.1 (.str p.2) fs)
    have h2 := put_length p.1 (V.str p.2) fs
    show (foldP (put p.1 (.str p.2) fs) r).length ≤ _
    simp only [List.length_cons]
    omega
noncomputable def Scl (ts : List V) (cost : Nat) (vis : List (Str × Str)) : Prop := vis.length ≤ cost ∧ ∀ n k v0 fs ws μ σ, ws.length + ts.length + 10 * cost ≤ 100000 → fs.length + cost ≤ 100000 → Sh v0 (ws ++ ts) fs μ σ →
  ∃ σ', Sh v0 ws (foldP fs vis) μ σ' ∧ whileS (callF W0 (n + 2)) (k + cost) σ = whileS (callF W0 (n + 2)) k σ'
theorem scl_nil : Scl [] 0 [] := ⟨Nat.le_refl _, fun n k v0 fs ws μ σ _ _ h => ⟨σ, by rw [List.append_nil] at h; exact h, rfl⟩⟩
theorem scl_snoc {ts : List V} {t : V} {c1 c2 : Nat} {v1 v2 : List (Str × Str)} (h1 : Scl ts c1 v1) (h2 : Scl [t] c2 v2) : Scl (ts ++ [t]) (c2 + c1) (v2 ++ v1) := by
  refine ⟨by rw [List.length_append]; exact Nat.add_le_add h2.1 h1.1, fun n k v0 fs ws μ σ b1 b2 h => ?_⟩
  rw [List.length_append, List.length_singleton] at b1
  rw [← List.append_assoc] at h
  obtain ⟨σ₁, s1, e1⟩ := h2.2 n (k + c1) v0 fs (ws ++ ts) μ σ (by rw [List.length_append, List.length_singleton]; omega) (by omega) h
  have hl := foldP_length v2 fs
  have := h2.1
  obtain ⟨σ₂, s2, e2⟩ := h1.2 n k v0 (foldP fs v2) ws μ σ₁ (by omega) (by omega) s1
  refine ⟨σ₂, by rw [foldP_append]; exact s2, ?_⟩
  rw [show k + (c2 + c1) = k + c1 + c2 by omega, e1, e2]
theorem pop_ok {ws : List V} {t : V} (h : ws.length ≤ 100000) : ownDo .pop (.list (ws ++ [t])) [] = some (.list ws, t) := by
  have hf : fits (ws ++ [t]).length = true := fits_of (by rw [List.length_append]; exact Nat.le_trans (Nat.add_le_add_right h 1) (by decide))
  show gdo true (gdo (fits (ws ++ [t]).length) (lastOf (ws ++ [t]))) = _
  rw [hf]
  show lastOf (ws ++ [t]) = _
  unfold lastOf
  rw [List.reverse_append]
  show some (V.list ws.reverse.reverse, t) = _
  rw [List.reverse_reverse]
theorem ext_ok {ws pts : List V} (h : ws.length + pts.length ≤ 16000000) : ownDo .extend (.list ws) [.list pts] = some (.list (ws ++ pts), .none) := by
  show (gdo (fits (ws.length + pts.length)) (some (ws ++ pts))).map _ = _
  rw [fits_of h]
  rfl
theorem ne_ok {ws : List V} {t : V} : some (!(ws ++ [t]).isEmpty) = some true := by cases ws <;> rfl
noncomputable def Road (t : V) (pts : List V) (v : List (Str × Str)) : Prop := ∀ n k v0 fs ws μ j h a, ownDo .pop (.list (ws ++ [t])) [] = some (.list ws, t) → ownDo .extend (.list ws) [.list pts] = some (.list (ws ++ pts), .none) → fs.length ≤ 100000 →
  ∃ σ', Sh v0 (ws ++ pts) (foldP fs v) μ σ' ∧ whileS (callF W0 (n + 2)) (k + 1) (SJ j v0 consL (ws ++ [t]) fs μ h a) = whileS (callF W0 (n + 2)) k σ'
theorem scl_node {t : V} {pts : List V} {cost : Nat} {vis v : List (Str × Str)} (hv : v.length ≤ 1) (hp : pts.length ≤ 8) (h : Scl pts cost vis) (road : Road t pts v) : Scl [t] (cost + 1) (v ++ vis) := by
  refine ⟨by rw [List.length_append, Nat.add_comm]; exact Nat.add_le_add h.1 hv, fun n k v0 fs ws μ σ b1 b2 hs => ?_⟩
  rw [List.length_singleton] at b1
  obtain ⟨σ₁, s1, e1⟩ : ∃ σ', Sh v0 (ws ++ pts) (foldP fs v) μ σ' ∧ whileS (callF W0 (n + 2)) (k + cost + 1) σ = whileS (callF W0 (n + 2)) (k + cost) σ' := by
    cases hs with
    | mk j h a => exact road n (k + cost) v0 fs ws μ j h a (pop_ok (by omega)) (ext_ok (by omega)) (by omega)
  have hl := foldP_length v fs
  obtain ⟨σ₂, s2, e2⟩ := h.2 n k v0 (foldP fs v) ws μ σ₁ (by omega) (by omega) s1
  exact ⟨σ₂, by rw [foldP_append]; exact s2, e1.trans e2⟩
section
variable {k1 k2 k3 : Addr} {f1 f2 f3 : List (Str × V)} {x c con : Str} {ps : List V} {c1 c2 c3 : Nat} {v1 v2 v3 : List (Str × Str)}
theorem z1 {α : Type} : ([] : List α).length ≤ 1 := Nat.zero_le 1
theorem scl_var : Scl [vVar (.str x)] 1 [] := scl_node (pts := []) (v := []) z1 (Nat.zero_le 8) scl_nil fun n k v0 fs ws μ j h a p e _ => ⟨_, .mk _ _ _, st_var (n := n + 2) ne_ok p (pa_var x) e⟩
theorem scl_lit3 : Scl [vLit 3] 1 [] := scl_node (pts := []) (v := []) z1 (Nat.zero_le 8) scl_nil fun n k v0 fs ws μ j h a p e _ => ⟨_, .mk _ _ _, st_lit (n := n + 2) ne_ok p (pa_lit 3) e⟩
theorem scl_lit0 : Scl [vLit 0] 1 [] := scl_node (pts := []) (v := []) z1 (Nat.zero_le 8) scl_nil fun n k v0 fs ws μ j h a p e _ => ⟨_, .mk _ _ _, st_lit0 (n := n + 2) ne_ok p (pa_lit 0) e⟩
theorem n1 : 1 ≤ 8 := by decide
theorem n2 : 2 ≤ 8 := by decide
theorem n3 : 3 ≤ 8 := by decide
theorem scl_app2 (h1 : Scl [.inst k1 f1] c1 v1) (h2 : Scl [.inst k2 f2] c2 v2) (h3 : Scl [.inst k3 f3] c3 v3) : Scl [vApp (.inst k1 f1) [.inst k2 f2, .inst k3 f3]] (c3 + (c2 + c1) + 1) ([] ++ (v3 ++ (v2 ++ v1))) := scl_node (v := []) (pts := [_, _, _]) z1 n3 (scl_snoc (scl_snoc h1 h2) h3) fun n k v0 fs ws μ j h a p e _ => ⟨_, .mk _ _ _, st_app2 (n := n + 2) ne_ok p pa_app2 e⟩
theorem scl_app1 (h1 : Scl [.inst k1 f1] c1 v1) (h2 : Scl [.inst k2 f2] c2 v2) : Scl [vApp (.inst k1 f1) [.inst k2 f2]] (c2 + c1 + 1) ([] ++ (v2 ++ v1)) := scl_node (v := []) (pts := [_, _]) z1 n2 (scl_snoc h1 h2) fun n k v0 fs ws μ j h a p e _ => ⟨_, .mk _ _ _, st_app1 (n := n + 2) ne_ok p pa_app1 e⟩
theorem scl_lam (h1 : Scl [.inst k1 f1] c1 v1) : Scl [vLam ps (.inst k1 f1)] (c1 + 1) ([] ++ v1) := scl_node (v := []) (pts := [_]) z1 n1 h1 fun n k v0 fs ws μ j h a p e _ => ⟨_, .mk _ _ _, st_lam (n := n + 2) ne_ok p (pa_lam ps) e⟩
theorem scl_let (r : Bool) (h1 : Scl [.inst k1 f1] c1 v1) (h2 : Scl [.inst k2 f2] c2 v2) : Scl [vLet x (.inst k1 f1) (.inst k2 f2) r] (c2 + c1 + 1) ([] ++ (v2 ++ v1)) := scl_node (v := []) (pts := [_, _]) z1 n2 (scl_snoc h1 h2) fun n k v0 fs ws μ j h a p e _ => by
  cases r with
  | true => exact ⟨_, .mk _ _ _, st_letT (n := n + 2) ne_ok p (pa_letT x) e⟩
  | false => exact ⟨_, .mk _ _ _, st_letF (n := n + 2) ne_ok p (pa_letF x) e⟩
theorem scl_case0 (h2 : Scl [.inst k2 f2] c2 v2) : Scl [vCase (vVar (.str x)) c [] (.inst k2 f2)] (c2 + 1 + 1) ([] ++ (v2 ++ [])) := scl_node (v := []) (pts := [_, _]) z1 n2 (scl_snoc (scl_var (x := x)) h2) fun n k v0 fs ws μ j h a p e _ => ⟨_, .mk _ _ _, st_case0 (n := n + 2) ne_ok p (pa_case0 c) e⟩
theorem scl_caseAn (h1 : Scl [vApp (.inst k1 f1) [.inst k3 f3]] c1 v1) (h2 : Scl [.inst k2 f2] c2 v2) : Scl [vCase (vApp (.inst k1 f1) [.inst k3 f3]) c [vAlt con ps (.inst k2 f2)] .none] (c2 + c1 + 1) ([] ++ (v2 ++ v1)) := scl_node (v := []) (pts := [_, _]) z1 n2 (scl_snoc h1 h2) fun n k v0 fs ws μ j h a p e _ => ⟨_, .mk _ _ _, st_caseAn (n := n + 2) ne_ok p (pa_case1n c con ps) e⟩
theorem scl_caseAo (h1 : Scl [vApp (.inst k1 f1) [.inst k3 f3]] c1 v1) (h2 : Scl [.inst k2 f2] c2 v2) : Scl [vCase (vApp (.inst k1 f1) [.inst k3 f3]) c [vAlt con ps (.inst k2 f2)] (vLit 0)] (1 + (c2 + c1) + 1) ([] ++ ([] ++ (v2 ++ v1))) := scl_node (v := []) (pts := [_, _, _]) z1 n3 (scl_snoc (scl_snoc h1 h2) scl_lit0) fun n k v0 fs ws μ j h a p e _ => ⟨_, .mk _ _ _, st_caseAo (n := n + 2) ne_ok p (pa_case1o c con ps) e⟩
end
end Mini
namespace Mini
theorem put_ok {fs : List (Str × V)} {x con : Str} (h : fs.length ≤ 100000) : putItem (.dictS fs) (.str x) (.str con) = some (.dictS (put x (.str con) fs)) := by
  exact gdo_t (fits_of (Nat.le_trans h (by decide)))
noncomputable def selfVis (x con : Str) : List (Str × Str) := if aloneC con then [(x, con)] else []
section
variable {k1 k2 k3 : Addr} {f1 f2 f3 : List (Str × V)} {x c con : Str} {ps : List V} {c1 c2 c3 : Nat} {v1 v2 v3 : List (Str × Str)}
theorem selfVis_le : (selfVis x con).length ≤ 1 := by unfold selfVis; cases aloneC con with | false => exact Nat.zero_le 1 | true => exact Nat.le_refl 1
theorem scl_case1n (hc : con ∈ conNames) (h2 : Scl [.inst k2 f2] c2 v2) : Scl [vCase (vVar (.str x)) c [vAlt con ps (.inst k2 f2)] .none] (c2 + 1 + 1) (selfVis x con ++ (v2 ++ [])) := scl_node (pts := [_, _]) selfVis_le n2 (scl_snoc (scl_var (x := x)) h2) fun n k v0 fs ws μ j h a p e hl => by
  obtain ⟨cv, hcv, hal⟩ := con_info hc
  have hg : getItemM (.dictS consL) (.str con) = some cv := hcv
  unfold selfVis
  cases ha : aloneC con with
  | false =>
    rw [if_neg Bool.false_ne_true]
    rw [ha] at hal
    exact ⟨_, .mk _ _ _, st_caseNn (n := n + 2) ne_ok p rfl rfl hg (hal _ _) (pa_case1n c con ps) e⟩
  | true =>
    rw [if_pos rfl]
    rw [ha] at hal
    exact ⟨_, .mk _ _ _, st_caseYn (n := n + 2) ne_ok p rfl rfl hg (hal _ _) rfl (put_ok hl) (pa_case1n c con ps) e⟩
theorem scl_case1o (hc : con ∈ conNames) (h2 : Scl [.inst k2 f2] c2 v2) : Scl [vCase (vVar (.str x)) c [vAlt con ps (.inst k2 f2)] (vLit 0)] (1 + (c2 + 1) + 1) (selfVis x con ++ ([] ++ (v2 ++ []))) := scl_node (pts := [_, _, _]) selfVis_le n3 (scl_snoc (scl_snoc (scl_var (x := x)) h2) scl_lit0) fun n k v0 fs ws μ j h a p e hl => by
  obtain ⟨cv, hcv, hal⟩ := con_info hc
  have hg : getItemM (.dictS consL) (.str con) = some cv := hcv
  unfold selfVis
  cases ha : aloneC con with
  | false =>
    rw [if_neg Bool.false_ne_true]
    rw [ha] at hal
    exact ⟨_, .mk _ _ _, st_caseNo (n := n + 2) ne_ok p rfl rfl hg (hal _ _) (pa_case1o c con ps) e⟩
  | true =>
    rw [if_pos rfl]
    rw [ha] at hal
    exact ⟨_, .mk _ _ _, st_caseYo (n := n + 2) ne_ok p rfl rfl hg (hal _ _) rfl (put_ok hl) (pa_case1o c con ps) e⟩
end
end Mini
namespace Mini
noncomputable def lets : List Str := [so "l", so "y", so "c", so "u"]
theorem nt_all {n : Nat} {μ : Mu} : lets.map (fun b => (List.range 33).map fun i => callF W0 (n + 4) 465 [.str (nm b ((i : Nat) : Int))] μ) = lets.map (fun b => (List.range 33).map fun i => some (.val (.str (nm b ((i : Nat) : Int))), μ)) := by kernel_rfl
theorem map_at {α β : Type} {f g : α → β} {l : List α} (h : l.map f = l.map g) {x : α} (hx : x ∈ l) : f x = g x := by
  induction l with
  | nil => cases hx
  | cons y r ih =>
    simp only [List.map_cons, List.cons.injEq] at h
    rcases List.mem_cons.mp hx with rfl | hx
    · exact h.1
    · exact ih h.2 hx
theorem nm_len : lets.all (fun b => (List.range 33).all fun i => decide ((nm b ((i : Nat) : Int)).length ≤ 12 ∧ b.length + (decS ((i : Nat) : Int)).length ≤ 100)) = true := by decide +kernel
theorem nm_len2 {b : Str} (hb : b ∈ lets) {i : Int} (h0 : 0 ≤ i) (h1 : i ≤ 32) : (nm b i).length ≤ 12 ∧ b.length + (decS i).length ≤ 100 := by
  have h := List.all_eq_true.mp (List.all_eq_true.mp nm_len b hb) i.toNat (by simp; omega)
  rw [show ((i.toNat : Nat) : Int) = i by omega] at h
  exact of_decide_eq_true h
theorem nt_of {b : Str} (hb : b ∈ lets) {i : Int} (h0 : 0 ≤ i) (h1 : i ≤ 32) : NT (nm b i) := by
  refine ⟨(nm_len2 hb h0 h1).1, fun N μ hN => up hN fun n => ?_⟩
  have h := map_at (map_at (nt_all (n := n) (μ := μ)) hb) (x := i.toNat) (by simp; omega)
  rw [show ((i.toNat : Nat) : Int) = i by omega] at h
  exact h
theorem u_inj : ∀ i < 33, ∀ j < 33, nm (so "u") ((i : Nat) : Int) = nm (so "u") ((j : Nat) : Int) → i = j := by decide +kernel
theorem u_ne {i j : Int} (h0 : 0 ≤ i) (h1 : i ≤ 32) (g0 : 0 ≤ j) (g1 : j ≤ 32) (h : i ≠ j) : nm (so "u") i ≠ nm (so "u") j := fun e => by
  have := u_inj i.toNat (by omega) j.toNat (by omega)
  rw [show ((i.toNat : Nat) : Int) = i by omega, show ((j.toNat : Nat) : Int) = j by omega] at this
  have := this e
  omega
theorem new_ok {n : Nat} {a b m : Int} {met : List V} {x3 x4 : Option V} {base : Str} (hb : base ∈ lets) (h0 : 0 ≤ m) (h1 : m + 1 ≤ 32) :
    callF W0 (n + 1) 634 [.reg 1, .str base] (muS a b m met x3 x4) = some (.val (.str (nm base (m + 1))), muS a b (m + 1) met x3 x4) :=
  new_spec a b m met x3 x4 base h0 (by omega) (nm_len2 hb (by omega) h1).2
theorem mem_ins {x y : Str} : ∀ {l : List Str}, y ∈ insS x l ↔ y = x ∨ y ∈ l
  | [] => by simp [insS]
  | z :: r => by
    unfold insS
    split
    · simp
    · rw [List.mem_cons, mem_ins, List.mem_cons]
      constructor
      · rintro (h | h | h) <;> simp [h]
      · rintro (h | h | h) <;> simp [h]
theorem mem_sort {y : Str} : ∀ {l : List Str}, y ∈ sortS l ↔ y ∈ l
  | [] => Iff.rfl
  | x :: r => by show y ∈ insS x (sortS r) ↔ _; rw [mem_ins, mem_sort, List.mem_cons]
theorem ins_length {x : Str} : ∀ {l : List Str}, (insS x l).length = l.length + 1
  | [] => rfl
  | z :: r => by
    unfold insS
    split
    · rfl
    · rw [List.length_cons, ins_length, List.length_cons]
theorem sort_length : ∀ {l : List Str}, (sortS l).length = l.length
  | [] => rfl
  | x :: r => by show (insS x (sortS r)).length = _; rw [ins_length, sort_length, List.length_cons]
theorem look_mem {x : Str} : ∀ {ks : List (Str × V)}, x ∈ ks.map (·.1) → ∃ v, look x ks = some v ∧ (x, v) ∈ ks
  | [], h => by cases h
  | (y, v) :: r, h => by
    unfold look
    cases hy : y == x with
    | true => have := eq_of_beq hy; subst this; exact ⟨v, rfl, List.mem_cons_self⟩
    | false =>
      have hne : y ≠ x := beq_eq_false_iff_ne.mp hy
      rcases List.mem_cons.mp h with e | h
      · exact absurd e.symm hne
      · obtain ⟨v', h1, h2⟩ := look_mem h
        exact ⟨v', h1, List.mem_cons_of_mem _ h2⟩
theorem look_some_mem {x : Str} {v : V} : ∀ {ks : List (Str × V)}, look x ks = some v → (x, v) ∈ ks
  | [], h => by cases h
  | (y, w) :: r, h => by
    unfold look at h
    cases hy : y == x with
    | true => rw [hy] at h; cases h; rw [eq_of_beq hy]; exact List.mem_cons_self
    | false => rw [hy] at h; exact List.mem_cons_of_mem _ (look_some_mem h)
theorem look_put {x k : Str} {v : V} : ∀ {ks : List (Str × V)}, look x (put k v ks) = if k = x then some v else look x ks
  | [] => by
    show (match k == x with | true => some v | false => look x []) = _
    by_cases h : k = x
    · rw [if_pos h, h, beq_self_eq_true]
    · rw [if_neg h, beq_eq_false_iff_ne.mpr h]
  | (y, w) :: r => by
    unfold put
    cases hy : y == k with
    | true =>
      have := eq_of_beq hy
      subst this
      show (match y == x with | true => some v | false => look x r) = _
      by_cases h : y = x
      · rw [if_pos h, h, beq_self_eq_true]
      · rw [if_neg h, beq_eq_false_iff_ne.mpr h]
        show _ = (match y == x with | true => some w | false => look x r)
        rw [beq_eq_false_iff_ne.mpr h]
    | false =>
      have hne : y ≠ k := beq_eq_false_iff_ne.mp hy
      show (match y == x with | true => some w | false => look x (put k v r)) = _
      rw [look_put]
      show _ = if k = x then some v else (match y == x with | true => some w | false => look x r)
      by_cases h : k = x
      · rw [if_pos h, if_pos h, beq_eq_false_iff_ne.mpr (by rw [← h]; exact hne)]
      · rw [if_neg h, if_neg h]
theorem mem_put {k : Str} {v : V} {p : Str × V} : ∀ {ks : List (Str × V)}, p ∈ put k v ks → p = (k, v) ∨ p ∈ ks
  | [], h => .inl (List.mem_singleton.mp h)
  | (y, w) :: r, h => by
    unfold put at h
    cases hy : y == k with
    | true =>
      rw [hy] at h
      rcases List.mem_cons.mp h with e | h
      · left; rw [e, eq_of_beq hy]
      · exact .inr (List.mem_cons_of_mem _ h)
    | false =>
      rw [hy] at h
      rcases List.mem_cons.mp h with e | h
      · exact .inr (by rw [e]; exact List.mem_cons_self)
      · exact (mem_put h).imp_right fun h => List.mem_cons_of_mem _ h
theorem put_ne_nil {k : Str} {v : V} {ks : List (Str × V)} : put k v ks ≠ [] := by
  cases ks with
  | nil => simp [put]
  | cons p r => unfold put; split <;> simp
end Mini
namespace Mini
noncomputable def cnt : Nat → Int
  | 0 => 0
  | d + 1 => 2 * cnt d + 3
noncomputable def kk (d : Nat) : Nat := 8 + 4 * d
noncomputable def LL : Nat → Nat
  | 0 => 12
  | d + 1 => 2 * LL d + 500
noncomputable def cc : Nat → Nat
  | 0 => 1
  | d + 1 => 2 * cc d + 6
theorem cnt_pos : ∀ d, 0 ≤ cnt d
  | 0 => by decide
  | d + 1 => by have := cnt_pos d; show 0 ≤ 2 * cnt d + 3; omega
theorem cc_pos : ∀ d, 1 ≤ cc d
  | 0 => by decide
  | d + 1 => by show 1 ≤ 2 * cc d + 6; omega
theorem LL_pos : ∀ d, 12 ≤ LL d
  | 0 => by decide
  | d + 1 => by have := LL_pos d; show 12 ≤ 2 * LL d + 500; omega
noncomputable def KV (v : V) : Prop := v = .none ∨ ∃ c ∈ conNames, v = .str c
noncomputable def OldG (G : List (Str × V)) (m : Int) : Prop := ∀ x ∈ G.map (·.1), ∀ i, m < i → i ≤ 32 → x ≠ nm (so "u") i
structure KOK (G : List (Str × V)) (m : Int) (ks : List (Str × V)) (d : Nat) : Prop where
  ne : ks ≠ []
  len : ks.length + 2 * d ≤ 30
  ok : ∀ p ∈ ks, NT p.1 ∧ KV p.2
  agree : ∀ x v, look x ks = some v → look x G = some v
  old : OldG G m
noncomputable def pairV (p : Str × Str) : V := .tuple [.str p.1, .str p.2]
inductive Met (d : Nat) (t : V) (ps : List (Str × Str)) : Prop
  | mk (vis : List (Str × Str)) (cost : Nat) (scl : Scl [t] cost vis) (le : cost ≤ cc d) (same : ∀ p, p ∈ vis ↔ p ∈ ps ∧ aloneC p.2 = true) : Met d t ps
inductive Told (G : List (Str × V)) (m' : Int) (ps : List (Str × Str)) : Prop
  | mk (G' : List (Str × V)) (keep : ∀ x v, look x G = some v → look x G' = some v) (old : OldG G' m') (says : ∀ p ∈ ps, look p.1 G' = some (.str p.2)) : Told G m' ps
structure BodyR (d : Nat) (G : List (Str × V)) (m : Int) (t : V) (m' : Int) (ps : List (Str × Str)) : Prop where
  m1 : m ≤ m'
  m2 : m' ≤ m + cnt d
  tx : Tx (kk d) (LL d) t
  sc : Met d t ps
  len : ps.length ≤ cc d
  cons : ∀ p ∈ ps, p.2 ∈ conNames
  g : Told G m' ps
inductive Res (d n : Nat) (ks G : List (Str × V)) (a b m : Int) (met : List V) (x3 x4 : Option V) : Prop
  | mk (t : V) (a' b' m' : Int) (ps : List (Str × Str)) (e : callF W0 (n + d + 3) 644 [.reg 0, .reg 1, .dictS ks, .int d, .reg 2] (muS a b m met x3 x4) = some (.val t, muS a' b' m' (met ++ ps.map pairV) x3 x4)) (R : BodyR d G m t m' ps) : Res d n ks G a b m met x3 x4
noncomputable def BodyOK (d : Nat) : Prop := ∀ n ks G a b (m : Int) (met : List V) x3 x4, KOK G m ks d → 0 ≤ m → m + cnt d ≤ 32 → met.length + cc d ≤ 1000 →
  Res d n ks G a b m met x3 x4
section
variable {G : List (Str × V)} {m : Int} {ks : List (Str × V)} {d : Nat}
theorem KOK.sorted (K : KOK G m ks d) : prim 4 [.dictS ks] = some (.own (.list ((sortS (ks.map (·.1))).map .str))) := gdo_t (Nat.ble_eq_true_of_le (Nat.le_trans (Nat.le_trans (Nat.le_add_right _ _) K.len) (by decide)))
inductive Named (ks : List (Str × V)) (n : Nat) (a b : Int) (m₁ : Int) (met : List V) (x3 x4 : Option V) : Prop
  | mk (x : Str) (v : V) (a' b' : Int) (at_ : look x ks = some v) (nt : NT x) (kv : KV v) (e : callF W0 (n + 2) 627 [.reg 0, .list ((sortS (ks.map (·.1))).map .str)] (muS a b m₁ met x3 x4) = some (.val (.str x), muS a' b' m₁ met x3 x4)) : Named ks n a b m₁ met x3 x4
theorem KOK.one (K : KOK G m ks d) (n : Nat) (a b : Int) (m₁ : Int) (met : List V) (x3 x4 : Option V) : Named ks n a b m₁ met x3 x4 := by
  have hl : ((sortS (ks.map (·.1))).map V.str).length = ks.length := by rw [List.length_map, sort_length, List.length_map]
  have h0 : 0 < ks.length := List.length_pos_iff.mpr K.ne
  obtain ⟨v, a', b', hv, h⟩ := one_spec (n := n) a b m₁ met ((sortS (ks.map (·.1))).map .str) x3 x4 (by rw [hl]; exact h0) (by rw [hl]; have := K.len; omega)
  obtain ⟨x, hx, rfl⟩ := List.mem_map.mp hv
  obtain ⟨w, h1, h2⟩ := look_mem (mem_sort.mp hx)
  exact ⟨x, w, a', b', h1, (K.ok _ h2).1, (K.ok _ h2).2, h⟩
theorem KOK.down (K : KOK G m ks (d + 1)) {G' : List (Str × V)} {m' : Int} (h : ∀ x v, look x G = some v → look x G' = some v) (ho : OldG G' m') : KOK G' m' ks d :=
  ⟨K.ne, by have := K.len; omega, K.ok, fun x v e => h x v (K.agree x v e), ho⟩
theorem KOK.field (K : KOK G m ks d) {m' : Int} {v : V} (h0 : 0 ≤ m') (hm : m ≤ m') (h1 : m' + 1 ≤ 32) (hv : KV v) (hl : ks.length + 1 + 2 * d ≤ 30) : KOK ((nm (so "u") (m' + 1), v) :: G) (m' + 1) (put (nm (so "u") (m' + 1)) v ks) d ∧ ∀ x w, look x G = some w → look x ((nm (so "u") (m' + 1), v) :: G) = some w := by
  have hG : ∀ x w, look x G = some w → look x ((nm (so "u") (m' + 1), v) :: G) = some w := fun x w e => by
    have hne : nm (so "u") (m' + 1) ≠ x := fun q => K.old x (List.mem_map_of_mem (look_some_mem e)) (m' + 1) (by omega) h1 q.symm
    show (match nm (so "u") (m' + 1) == x with | true => some v | false => look x G) = some w
    rw [beq_eq_false_iff_ne.mpr hne]; exact e
  have hu : so "u" ∈ lets := by decide
  refine ⟨⟨put_ne_nil, by have := put_length (nm (so "u") (m' + 1)) v ks; omega, fun p hp => ?_, fun x w e => ?_, fun x hx i hi hi2 => ?_⟩, hG⟩
  · rcases mem_put hp with rfl | hp
    · exact ⟨nt_of hu (by omega) h1, hv⟩
    · exact K.ok p hp
  · rw [look_put] at e
    by_cases q : nm (so "u") (m' + 1) = x
    · rw [if_pos q] at e; cases e
      show (match nm (so "u") (m' + 1) == x with | true => some v | false => look x G) = some v
      rw [beq_iff_eq.mpr q]
    · rw [if_neg q] at e; exact hG x w (K.agree x w e)
  · rcases List.mem_cons.mp hx with e | hx
    · dsimp only at e
      rw [e]; exact u_ne (by omega) h1 (by omega) hi2 (by omega)
    · exact K.old x hx i (by omega) hi2
end
theorem gt_true {i : Int} (h : 0 < i) : cmpop .Gt (.int i) (.int 0) = some true := op_gt (decide_eq_true h)
theorem gt_false {i : Int} (h : ¬ 0 < i) : cmpop .Gt (.int i) (.int 0) = some false := op_gt (decide_eq_false h)
theorem eq_true' {i j : Int} (h : i = j) : cmpop .Eq (.int i) (.int j) = some true := congrArg some (beq_iff_eq.mpr h)
theorem eq_false' {i j : Int} (h : i ≠ j) : cmpop .Eq (.int i) (.int j) = some false := congrArg some (beq_eq_false_iff_ne.mpr h)
theorem sub1 (d : Nat) : binop .Sub (.int ((d + 1 : Nat) : Int)) (.int 1) = some (.val (.int (d : Int))) := congrArg (fun z : Int => some (Slot.val (.int z))) (show ((d + 1 : Nat) : Int) - 1 = (d : Int) by omega)
theorem is_none_str {c : Str} : cmpop .Is (.str c) .none = some false := rfl
theorem append_ok {met : List V} {v : V} (h : met.length + 1 ≤ 1000000) : ownDo .append (.list met) [v] = some (.list (met ++ [v]), .none) := by
  show (gdo (fits (met.length + 1)) (some (met ++ [v]))).map _ = _
  rw [fits_of (Nat.le_trans h (by decide))]
  rfl
theorem dict_copy {ks : List (Str × V)} (h : ks.length ≤ 1000000) : prim 8 [.dictS ks] = some (.own (.dictS ks)) := gdo_t (fits_of (Nat.le_trans h (by decide)))
theorem update_ok {xs ys : List (Str × V)} (h : xs.length + ys.length ≤ 1000000) : ownDo .update (.dictS xs) [.dictS ys] = some (.dictS (ys.foldl (fun acc p => put p.1 p.2 acc) xs), .none) := gdo_t (fits_of (Nat.le_trans h (by decide)))
theorem old_body {d : Nat} {G : List (Str × V)} {m m' : Int} {t : V} {ps : List (Str × Str)} (h : OldG G m) (hm : m ≤ m') : OldG G m' := fun x hx i hi hi2 => h x hx i (by omega) hi2
theorem leaf_ok {d : Nat} {G : List (Str × V)} {m : Int} {t : V} (ho : OldG G m) (ht : Tx 5 12 t) (hs : Scl [t] 1 []) : BodyR d G m t m [] :=
  ⟨Int.le_refl _, by have := cnt_pos d; omega, ht.mono (by unfold kk; omega) (LL_pos d), ⟨[], 1, hs, cc_pos d, by simp⟩, by simp, by simp, G, fun _ _ h => h, ho, by simp⟩
theorem mu_append {a b m : Int} {met : List V} {x3 x4 : Option V} : muS a b m met x3 x4 = muS a b m (met ++ ([] : List (Str × Str)).map pairV) x3 x4 := by rw [List.map_nil, List.append_nil]
theorem body0 : BodyOK 0 := fun n ks G a b m met x3 x4 K h0 h1 h2 => by
  obtain ⟨r, a1, b1, r0, r1, e1⟩ := take_spec (n := n + 1) a b m 3 met x3 x4 (by omega) (by omega)
  by_cases hr : 0 < r
  · obtain ⟨x, v, a2, b2, hx, hnt, _, e2⟩ := K.one n a1 b1 m met x3 x4
    exact ⟨_, a2, b2, m, [], (body_var0 (n := n + 2) K.sorted rfl e1 (gt_true hr) e2 (mk_Var _)).trans (by rw [← mu_append]), leaf_ok K.old (tx_var hnt) scl_var⟩
  · exact ⟨_, a1, b1, m, [], (body_lit0 (n := n + 2) K.sorted rfl e1 (gt_false hr) (mk_Lit _ _)).trans (by rw [← mu_append]), leaf_ok K.old tx_lit3 scl_lit3⟩
end Mini
namespace Mini
theorem nt_more {n : Nat} {μ : Mu} : (so "h" :: so "w" :: conNames).map (fun x => callF W0 (n + 4) 465 [.str x] μ) = (so "h" :: so "w" :: conNames).map (fun x => some (.val (.str x), μ)) := by kernel_rfl
theorem nt_len : (so "h" :: so "w" :: conNames).all (fun x => decide (x.length ≤ 12)) = true := by decide +kernel
theorem nt_of' {x : Str} (h : x ∈ so "h" :: so "w" :: conNames) : NT x := ⟨of_decide_eq_true (List.all_eq_true.mp nt_len x h), fun N μ hN => up hN fun n => map_at (nt_more (n := n) (μ := μ)) h⟩
theorem nt_con {c : Str} (h : c ∈ conNames) : NT c := nt_of' (List.mem_cons_of_mem _ (List.mem_cons_of_mem _ h))
theorem nt_h : NT (so "h") := nt_of' List.mem_cons_self
theorem tx_val {x : Str} (hx : NT x) (d : Nat) : Tx (kk d) 44 (vVar (.str x)) := (tx_var hx).mono (by unfold kk; omega) (by omega)
theorem tx_valA {x : Str} (hx : NT x) (d : Nat) : Tx (kk d) 44 (vApp (vVar (.str (so "h"))) [vVar (.str x)]) := (tx_app1 (tx_var nt_h) (tx_var hx) (by omega) (by omega)).mono (by unfold kk; omega) (by omega)
theorem LL_le : ∀ d, d ≤ 6 → LL d ≤ 300000 := by decide
theorem prim18 {c : Str} (h : c ∈ conNames) : ∃ k : Nat, k ≤ 2 ∧ prim 18 [.dictS [(so "Two", .int 2), (so "None", .int 0)], .str c, .int 1] = some (.val (.int k)) := by
  simp only [conNames, List.mem_cons, List.not_mem_nil, or_false] at h
  rcases h with rfl | rfl | rfl | rfl | rfl
  · exact ⟨2, by omega, by kernel_rfl⟩
  · exact ⟨1, by omega, by kernel_rfl⟩
  · exact ⟨0, by omega, by kernel_rfl⟩
  · exact ⟨1, by omega, by kernel_rfl⟩
  · exact ⟨1, by omega, by kernel_rfl⟩
theorem kv_of {v : V} (h : v ∈ ([.none, .str (so "Two"), .str (so "New")] : List V)) : KV v := by
  simp only [List.mem_cons, List.not_mem_nil, or_false] at h
  rcases h with rfl | rfl | rfl
  · exact .inl rfl
  · exact .inr ⟨_, by decide, rfl⟩
  · exact .inr ⟨_, by decide, rfl⟩
theorem pairs2 {u1 u2 : Str} {v1 v2 : V} (h : u1 ≠ u2) : prim 8 [.list [.tuple [.str u1, v1], .tuple [.str u2, v2]]] = some (.own (.dictS [(u1, v1), (u2, v2)])) := by
  have e : put u2 v2 [(u1, v1)] = [(u1, v1), (u2, v2)] := by
    show (match u1 == u2 with | true => (u1, v2) :: [] | false => (u1, v1) :: put u2 v2 []) = _
    rw [beq_eq_false_iff_ne.mpr h]; rfl
  show some (Slot.own (.dictS (put u2 v2 [(u1, v1)]))) = _
  rw [e]
theorem case1_ok {d : Nat} {G G2 : List (Str × V)} {m m1 m' : Int} {t1 : V} {ps1 : List (Str × Str)} {x c con : Str} {us : List Str} (isv o : Bool) (R : BodyR d G2 m1 t1 m' ps1) (hd : d ≤ 5)
    (hx : NT x) (hcn : NT c) (hcon : con ∈ conNames) (hus : ∀ u ∈ us, NT u) (hul : us.length ≤ 2) (hG : ∀ y w, look y G = some w → look y G2 = some w) (hxG : look x G = some (.str con)) (hm : m ≤ m1) (hm1 : m1 ≤ m + 3) :
    BodyR (d + 1) G m (vCase (if isv then vVar (.str x) else vApp (vVar (.str (so "h"))) [vVar (.str x)]) c [vAlt con (us.map .str) t1] (if o then vLit 0 else .none)) m' ((if isv then [(x, con)] else []) ++ ps1) := by
  have hL := LL_le d (by omega)
  have hkk : kk (d + 1) = kk d + 4 := by unfold kk; omega
  have hLL : LL (d + 1) = 2 * LL d + 500 := rfl
  have hcc : cc (d + 1) = 2 * cc d + 6 := rfl
  have hk5 : 5 ≤ kk d := by unfold kk; omega
  have hns : Ns 130 (us.map .str) := ns_of hus (by omega)
  have h1 := R.m1
  have h2 := R.m2
  have hcp := cnt_pos d
  have hLp := LL_pos d
  obtain ⟨vis, cost, sc, hcost, hvis⟩ := R.sc
  obtain ⟨G', g1, g2, g3⟩ := R.g
  have hlen := R.len
  refine ⟨by omega, by show m' ≤ m + (2 * cnt d + 3); omega, ?_, ?_, ?_, ?_, G', fun y w e => g1 y w (hG y w e), g2, ?_⟩
  · rw [hkk, hLL]
    cases isv <;> cases o
    · exact (tx_case1n hcn (nt_con hcon) hns (tx_valA hx d) R.tx hk5 (by omega)).mono (by omega) (by omega)
    · exact (tx_case1o hcn (nt_con hcon) hns (tx_valA hx d) R.tx hk5 (by omega)).mono (by omega) (by omega)
    · exact (tx_case1n hcn (nt_con hcon) hns (tx_val hx d) R.tx hk5 (by omega)).mono (by omega) (by omega)
    · exact (tx_case1o hcn (nt_con hcon) hns (tx_val hx d) R.tx hk5 (by omega)).mono (by omega) (by omega)
  · obtain ⟨K1, f1, _, rfl, _, _⟩ := R.tx
    have hsv : ∀ p : Str × Str, p ∈ selfVis x con ↔ p = (x, con) ∧ aloneC p.2 = true := fun p => by
      unfold selfVis
      split
      · rename_i ha
        constructor
        · intro h; have := List.mem_singleton.mp h; subst this; exact ⟨rfl, ha⟩
        · rintro ⟨rfl, _⟩; exact List.mem_singleton.mpr rfl
      · rename_i ha
        constructor
        · intro h; cases h
        · rintro ⟨rfl, h⟩; exact absurd h ha
    have memT : ∀ p : Str × Str, (p ∈ selfVis x con ++ vis) ↔ p ∈ [(x, con)] ++ ps1 ∧ aloneC p.2 = true := fun p => by
      rw [List.mem_append, hsv, hvis, List.mem_append, List.mem_singleton]
      constructor
      · rintro (⟨h, g⟩ | ⟨h, g⟩)
        · exact ⟨.inl h, g⟩
        · exact ⟨.inr h, g⟩
      · rintro ⟨h | h, g⟩
        · exact .inl ⟨h, g⟩
        · exact .inr ⟨h, g⟩
    cases isv <;> cases o
    · exact ⟨_, _, scl_caseAn (scl_app1 scl_var scl_var) sc, by omega, fun p => by simp only [List.nil_append, List.append_nil, Bool.false_eq_true, if_false]; exact hvis p⟩
    · exact ⟨_, _, scl_caseAo (scl_app1 scl_var scl_var) sc, by omega, fun p => by simp only [List.nil_append, List.append_nil, Bool.false_eq_true, if_false]; exact hvis p⟩
    · exact ⟨_, _, scl_case1n hcon sc, by omega, fun p => by simp only [List.nil_append, List.append_nil, if_true]; exact memT p⟩
    · exact ⟨_, _, scl_case1o hcon sc, by omega, fun p => by simp only [List.nil_append, List.append_nil, if_true]; exact memT p⟩
  · cases isv
    · simp; omega
    · simp; omega
  · intro p hp
    rcases List.mem_append.mp hp with h | h
    · cases isv
      · cases h
      · have := List.mem_singleton.mp h; subst this; exact hcon
    · exact R.cons p h
  · intro p hp
    rcases List.mem_append.mp hp with h | h
    · cases isv
      · cases h
      · have := List.mem_singleton.mp h; subst this; exact g1 _ _ (hG _ _ hxG)
    · exact g3 p h
theorem two_ok {d : Nat} {G G1 : List (Str × V)} {m m0 m1 m2 : Int} {t1 t2 t : V} {p1 p2 : List (Str × Str)} (R1 : BodyR d G m0 t1 m1 p1) (hG1 : (∀ y w, look y G = some w → look y G1 = some w) ∧ ∀ p ∈ p1, look p.1 G1 = some (.str p.2)) (R2 : BodyR d G1 m1 t2 m2 p2) (hm : m ≤ m0) (hm0 : m0 ≤ m + 3)
    (ht : Tx (kk (d + 1)) (LL (d + 1)) t) (hs : ∀ c1 v1 c2 v2, Scl [t1] c1 v1 → Scl [t2] c2 v2 → ∃ c, c ≤ c1 + c2 + 2 ∧ Scl [t] c (v2 ++ v1)) : BodyR (d + 1) G m t m2 (p1 ++ p2) := by
  have hcc : cc (d + 1) = 2 * cc d + 6 := rfl
  have a1 := R1.m1
  have a2 := R1.m2
  have b1 := R2.m1
  have b2 := R2.m2
  have l1 := R1.len
  have l2 := R2.len
  obtain ⟨v1, c1, s1, e1, i1⟩ := R1.sc
  obtain ⟨v2, c2, s2, e2, i2⟩ := R2.sc
  obtain ⟨c, hc, s⟩ := hs c1 v1 c2 v2 s1 s2
  obtain ⟨G', g1, g2, g3⟩ := R2.g
  refine ⟨by omega, by show m2 ≤ m + (2 * cnt d + 3); omega, ht, ⟨_, c, s, by omega, fun p => ?_⟩, by rw [List.length_append]; omega, fun p hp => ?_, G', fun y w e => g1 y w (hG1.1 y w e), g2, fun p hp => ?_⟩
  · rw [List.mem_append, i1, i2, List.mem_append]
    constructor
    · rintro (⟨h, g⟩ | ⟨h, g⟩)
      · exact ⟨.inr h, g⟩
      · exact ⟨.inl h, g⟩
    · rintro ⟨h | h, g⟩
      · exact .inr ⟨h, g⟩
      · exact .inl ⟨h, g⟩
  · rcases List.mem_append.mp hp with h | h
    · exact R1.cons p h
    · exact R2.cons p h
  · rcases List.mem_append.mp hp with h | h
    · exact g1 _ _ (hG1.2 p h)
    · exact g3 p h
theorem one_ok {d : Nat} {G : List (Str × V)} {m m0 m1 : Int} {t1 t : V} {p1 : List (Str × Str)} (R1 : BodyR d G m0 t1 m1 p1) (hm : m ≤ m0) (hm0 : m0 ≤ m + 3)
    (ht : Tx (kk (d + 1)) (LL (d + 1)) t) (hs : ∀ c1 v1, Scl [t1] c1 v1 → ∃ c, c ≤ c1 + 2 ∧ Scl [t] c v1) : BodyR (d + 1) G m t m1 p1 := by
  have hcc : cc (d + 1) = 2 * cc d + 6 := rfl
  have a1 := R1.m1
  have a2 := R1.m2
  have l1 := R1.len
  have hcp := cnt_pos d
  obtain ⟨v1, c1, s1, e1, i1⟩ := R1.sc
  obtain ⟨c, hc, s⟩ := hs c1 v1 s1
  exact ⟨by omega, by show m1 ≤ m + (2 * cnt d + 3); omega, ht, ⟨_, c, s, by omega, i1⟩, by omega, R1.cons, R1.g⟩
end Mini
namespace Mini
theorem ns_of1 {y0 : Str} (g0 : NT y0) : Ns 130 [.str y0] := ns_of (xs := [y0]) (fun x h => by rw [List.mem_singleton.mp h]; exact g0) (Nat.le_of_ble_eq_true rfl)
theorem inst_of {k L : Nat} {v : V} (h : Tx k L v) : ∃ K f, v = .inst K f := let ⟨K, f, _, e, _, _⟩ := h; ⟨K, f, e⟩
theorem mu_two {a b m : Int} {met : List V} {x3 x4 : Option V} {p q : List (Str × Str)} : muS a b m (met ++ p.map pairV ++ q.map pairV) x3 x4 = muS a b m (met ++ (p ++ q).map pairV) x3 x4 := by rw [List.map_append, List.append_assoc]
theorem mu_cons {a b m : Int} {met : List V} {x3 x4 : Option V} {p : Str × Str} {q : List (Str × Str)} : muS a b m (met ++ [pairV p] ++ q.map pairV) x3 x4 = muS a b m (met ++ ([p] ++ q).map pairV) x3 x4 := by rw [List.map_append, List.append_assoc]; rfl
structure Lim (d : Nat) (m : Int) (met : List V) : Prop where
  lo : 0 ≤ m
  hi : m + cnt d ≤ 32
  len : met.length + cc d ≤ 1000
structure Num (m : Int) : Prop where
  lo : 0 ≤ m
  hi : m + 1 ≤ 32
section
variable {d n : Nat} {ks G G2 : List (Str × V)} {a b m m1 m2 : Int} {met met' : List V} {x3 x4 : Option V} {t1 : V} {p1 : List (Str × Str)}
theorem cnt_succ (d : Nat) : cnt (d + 1) = 2 * cnt d + 3 := rfl
theorem Lim.hi' (L : Lim (d + 1) m met) : m + 3 + 2 * cnt d ≤ 32 := by
  have h := L.hi
  rw [cnt_succ] at h
  omega
theorem Lim.len' (L : Lim (d + 1) m met) : met.length + 2 * cc d + 6 ≤ 1000 := L.len
theorem Lim.first (L : Lim (d + 1) m met) (h : m ≤ m1) (h' : m1 ≤ m + 3) (hm : met'.length ≤ met.length + 1) : Lim d m1 met' :=
  ⟨Int.le_trans L.lo h, by have := L.hi'; have := cnt_pos d; omega, by have := L.len'; omega⟩
theorem Lim.next (L : Lim (d + 1) m met) (h : m ≤ m1) (h' : m1 ≤ m + 3) (R : BodyR d G m1 t1 m2 p1) : Lim d m2 (met ++ p1.map pairV) :=
  ⟨Int.le_trans (Int.le_trans L.lo h) R.m1, by have := L.hi'; have := R.m2; omega, by rw [List.length_append, List.length_map]; have := L.len'; have := R.len; omega⟩
theorem Lim.num (L : Lim (d + 1) m met) (h : m ≤ m1) (h' : m1 ≤ m + 2) : Num m1 := ⟨Int.le_trans L.lo h, by have := L.hi'; have := cnt_pos d; omega⟩
theorem Num.next (N : Num m) : 0 ≤ m + 1 := Int.le_trans N.lo (Int.le_add_one (Int.le_refl m))
theorem Num.nt (N : Num m) {x : Str} (h : x ∈ lets) : NT (nm x (m + 1)) := nt_of h N.next N.hi
theorem le1' : m ≤ m + 1 := Int.le_add_one (Int.le_refl m)
theorem le2' : m ≤ m + 1 + 1 := Int.le_add_one le1'
theorem le3' : m ≤ m + 1 + 1 + 1 := Int.le_add_one le2'
theorem up0 : m ≤ m + 3 := by omega
theorem up1 : m + 1 ≤ m + 3 := by omega
theorem up2 : m + 1 + 1 ≤ m + 3 := by omega
theorem up3 : m + 1 + 1 + 1 ≤ m + 3 := by omega
theorem wp0 : m ≤ m + 2 := by omega
theorem wp1 : m + 1 ≤ m + 2 := by omega
theorem wp2 : m + 1 + 1 ≤ m + 2 := by omega
theorem BodyOK.run (h : BodyOK d) (n : Nat) (K : KOK G m ks d) (L : Lim d m met) (a b : Int) (x3 x4 : Option V) : Res d n ks G a b m met x3 x4 := h n ks G a b m met x3 x4 K L.lo L.hi L.len
theorem kk_succ (d : Nat) : kk (d + 1) = kk d + 4 := by unfold kk; omega
theorem LL_succ (d : Nat) : LL (d + 1) = 2 * LL d + 500 := rfl
theorem kk5 (d : Nat) : 5 ≤ kk d := Nat.le_trans (by decide) (Nat.le_add_right 8 _)
theorem tx_up {k L c : Nat} {v : V} (h : Tx k L v) (hk : k ≤ kk d + 4) (hL : L ≤ 2 * LL d + 500) : Tx (kk (d + 1)) (LL (d + 1)) v := by rw [kk_succ, LL_succ]; exact h.mono hk hL
theorem z3 : 3 ≤ kk d + 3 := Nat.le_add_left _ _
theorem k3 {k : Nat} : k + 3 ≤ k + 4 := Nat.le_succ _
theorem k2 {k : Nat} : k + 2 ≤ k + 4 := Nat.le_trans (Nat.le_succ _) k3
theorem room2 (h : LL d ≤ 300000) : LL d + 44 + LL d ≤ 900000 := by omega
theorem room1 (h : LL d ≤ 300000) : LL d + LL d ≤ 900000 := by omega
theorem room3 (h : LL d ≤ 300000) : LL d + 130 ≤ 900000 := by omega
theorem room4 (h : LL d ≤ 300000) : 44 + LL d ≤ 900000 := by omega
theorem got2 : LL d + 44 + LL d + 20 ≤ 2 * LL d + 500 := by omega
theorem got1 : LL d + LL d + 60 ≤ 2 * LL d + 500 := by omega
theorem got3 : LL d + 130 + 20 ≤ 2 * LL d + 500 := by omega
theorem got4 : 44 + LL d + 60 ≤ 2 * LL d + 500 := by omega
theorem eq_of_val {t : V} {vs vs' : List (Str × Str)} {c : Nat} (s : Scl [t] c ([] ++ vs)) (e : vs = vs') : Scl [t] c vs' := e ▸ s
theorem cost2 {c1 c2 : Nat} : 1 ≤ 1 ∧ c2 + (c1 + 1) + 1 ≤ c1 + c2 + 2 := by omega
theorem cost1 {c1 c2 : Nat} : c2 + c1 + 1 ≤ c1 + c2 + 2 := by omega
variable {w a1 b1 : Int}
structure Way (d n : Nat) (ks G : List (Str × V)) (a b m : Int) (met : List V) (x3 x4 : Option V) (w a1 b1 : Int) : Prop where
  K : KOK G m ks (d + 1)
  L : Lim (d + 1) m met
  gt : cmpop .Gt (.int ((d + 1 : Nat) : Int)) (.int 0) = some true
  ew : callF W0 (n + d + 3) 620 [.reg 0, .int 6] (muS a b m met x3 x4) = some (.val (.int w), muS a1 b1 m met x3 x4)
  small : LL d ≤ 300000
  d5 : d ≤ 5
noncomputable abbrev WayAt (d n : Nat) (ks G : List (Str × V)) (a b m : Int) (met : List V) (x3 x4 : Option V) (w a1 b1 : Int) : Prop := Way d n ks G a b m met x3 x4 w a1 b1
theorem OldG.next (h : OldG G m) : OldG G (m + 1) := old_body (d := 0) (t := .none) (ps := []) h le1'
theorem Way.K0 (W : Way d n ks G a b m met x3 x4 w a1 b1) : KOK G m ks d := W.K.down (fun _ _ h => h) W.K.old
theorem Way.K1 (W : Way d n ks G a b m met x3 x4 w a1 b1) : KOK G (m + 1) ks d := W.K.down (fun _ _ h => h) (OldG.next W.K.old)
theorem way0 (W : WayAt d n ks G a b m met x3 x4 0 a1 b1) : Res (d + 1) n ks G a b m met x3 x4 := by
  obtain ⟨r, a2, b2, _, _, e1⟩ := take_spec (n := n + d + 2) a1 b1 m 3 met x3 x4 (by decide) (by decide)
  by_cases hr : 0 < r
  · obtain ⟨x, v, a3, b3, hx, hnt, _, e2⟩ := W.K.one (n + d + 1) a2 b2 m met x3 x4
    exact ⟨_, a3, b3, m, [], (body_var1 (n := n + d + 3) W.K.sorted W.gt W.ew e1 (gt_true hr) e2 (mk_Var _)).trans (by rw [← mu_append]), leaf_ok W.K.old (tx_var hnt) scl_var⟩
  · exact ⟨_, a2, b2, m, [], (body_lit1 (n := n + d + 3) W.K.sorted W.gt W.ew e1 (gt_false hr) (mk_Lit _ _)).trans (by rw [← mu_append]), leaf_ok W.K.old tx_lit3 scl_lit3⟩
theorem way1 (ih : BodyOK d) (W : WayAt d n ks G a b m met x3 x4 1 a1 b1) : Res (d + 1) n ks G a b m met x3 x4 := by
  obtain ⟨t1, a2, b2, m2, p1, e1, R1⟩ := ih.run n W.K0 (W.L.first (Int.le_refl m) up0 (Nat.le_succ _)) a1 b1 x3 x4
  obtain ⟨G1, g1, o1, q1⟩ := R1.g
  obtain ⟨t2, a3, b3, m3, p2, e2, R2⟩ := ih.run n (W.K.down g1 o1) (W.L.next (Int.le_refl m) up0 R1) a2 b2 x3 x4
  refine ⟨vApp (vVar (.str (so "h"))) [t1, t2], a3, b3, m3, p1 ++ p2, (body_app (n := n + d + 3) W.K.sorted W.gt W.ew (mk_Var _) (sub1 d) e1 (sub1 d) e2 (mk_App _ _)).trans (by rw [mu_two]), two_ok R1 ⟨g1, q1⟩ R2 (Int.le_refl _) up0 (tx_up (c := 0) (tx_app2 (tx_val nt_h d) R1.tx R2.tx (kk5 d) (room2 W.small)) k3 got2) fun c1 v1 c2 v2 s1 s2 => ?_⟩
  obtain ⟨K1, f1, rfl⟩ := inst_of R1.tx
  obtain ⟨K2, f2, rfl⟩ := inst_of R2.tx
  exact ⟨_, cost2.2, eq_of_val (scl_app2 (scl_var (x := so "h")) s1 s2) (by rw [List.append_nil])⟩
theorem way2 (ih : BodyOK d) (W : WayAt d n ks G a b m met x3 x4 2 a1 b1) : Res (d + 1) n ks G a b m met x3 x4 := by
  have N := W.L.num (Int.le_refl m) wp0
  have ex := new_ok (n := n + d + 2) (a := a1) (b := b1) (met := met) (x3 := x3) (x4 := x4) (base := so "l") (by decide) N.lo N.hi
  obtain ⟨t1, a2, b2, m2, p1, e1, R1⟩ := ih.run n W.K1 (W.L.first le1' up1 (Nat.le_succ _)) a1 b1 x3 x4
  obtain ⟨G1, g1, o1, q1⟩ := R1.g
  obtain ⟨t2, a3, b3, m3, p2, e2, R2⟩ := ih.run n (W.K.down g1 o1) (W.L.next le1' up1 R1) a2 b2 x3 x4
  obtain ⟨r, a4, b4, _, _, e3⟩ := take_spec (n := n + d + 2) a3 b3 m3 2 (met ++ p1.map pairV ++ p2.map pairV) x3 x4 (by decide) (by decide)
  have fin : ∀ rr : Bool, BodyR (d + 1) G m (vLet (nm (so "l") (m + 1)) t1 t2 rr) m3 (p1 ++ p2) := fun rr => two_ok R1 ⟨g1, q1⟩ R2 le1' up1 (tx_up (c := 0) (tx_let rr (N.nt (by decide)) R1.tx R2.tx (kk5 d) (room1 W.small)) k3 got1) fun c1 v1 c2 v2 s1 s2 => by
    obtain ⟨K1, f1, rfl⟩ := inst_of R1.tx
    obtain ⟨K2, f2, rfl⟩ := inst_of R2.tx
    exact ⟨_, cost1, eq_of_val (scl_let rr s1 s2) rfl⟩
  by_cases hr : r = 0
  · exact ⟨_, a4, b4, m3, p1 ++ p2, (body_let_true (n := n + d + 3) W.K.sorted W.gt W.ew ex (sub1 d) e1 (sub1 d) e2 e3 (eq_true' hr) (mk_Let _ _ _)).trans (by rw [mu_two]), fin true⟩
  · exact ⟨_, a4, b4, m3, p1 ++ p2, (body_let_false (n := n + d + 3) W.K.sorted W.gt W.ew ex (sub1 d) e1 (sub1 d) e2 e3 (eq_false' hr) (mk_Let _ _ _)).trans (by rw [mu_two]), fin false⟩
theorem way3 (ih : BodyOK d) (W : WayAt d n ks G a b m met x3 x4 3 a1 b1) : Res (d + 1) n ks G a b m met x3 x4 := by
  have N := W.L.num (Int.le_refl m) wp0
  have ex := new_ok (n := n + d + 2) (a := a1) (b := b1) (met := met) (x3 := x3) (x4 := x4) (base := so "y") (by decide) N.lo N.hi
  obtain ⟨t1, a2, b2, m2, p1, e1, R1⟩ := ih.run n W.K1 (W.L.first le1' up1 (Nat.le_succ _)) a1 b1 x3 x4
  refine ⟨_, a2, b2, m2, p1, body_lam (n := n + d + 3) W.K.sorted W.gt W.ew ex (sub1 d) e1 (mk_Lam _ _), one_ok R1 le1' up1 (tx_up (c := 0) (tx_lam (ns_of1 (N.nt (by decide))) R1.tx (kk5 d) (room3 W.small)) k2 got3) fun c1 v1 s1 => ?_⟩
  obtain ⟨K1, f1, rfl⟩ := inst_of R1.tx
  exact ⟨_, Nat.le_succ _, eq_of_val (scl_lam s1) rfl⟩
structure Cas (d n : Nat) (ks G : List (Str × V)) (a b m : Int) (met : List V) (x3 x4 : Option V) (w a1 b1 : Int) (x : Str) (v : V) (a2 b2 : Int) : Prop extends Way d n ks G a b m met x3 x4 w a1 b1 where
  q0 : cmpop .Eq (.int w) (.int 0) = some false
  q1 : cmpop .Eq (.int w) (.int 1) = some false
  q2 : cmpop .Eq (.int w) (.int 2) = some false
  q3 : cmpop .Eq (.int w) (.int 3) = some false
  hx : look x ks = some v
  nt : NT x
  e1 : callF W0 (n + d + 3) 627 [.reg 0, .list ((sortS (ks.map (·.1))).map .str)] (muS a1 b1 m met x3 x4) = some (.val (.str x), muS a2 b2 m met x3 x4)
  ex : callF W0 (n + d + 3) 634 [.reg 1, .str (so "c")] (muS a2 b2 m met x3 x4) = some (.val (.str (nm (so "c") (m + 1))), muS a2 b2 (m + 1) met x3 x4)
variable {x con : Str} {v : V} {a2 b2 a3 b3 : Int}
theorem Cas.ntc (W : Cas d n ks G a b m met x3 x4 w a1 b1 x v a2 b2) : NT (nm (so "c") (m + 1)) := (W.L.num (Int.le_refl m) wp0).nt (by decide)
theorem case_none (ih : BodyOK d) (W : Cas d n ks G a b m met x3 x4 w a1 b1 x .none a2 b2) : Res (d + 1) n ks G a b m met x3 x4 := by
  obtain ⟨t1, a3, b3, m3, p1, e2, R1⟩ := ih.run n W.K1 (W.L.first le1' up1 (Nat.le_succ _)) a2 b2 x3 x4
  refine ⟨_, a3, b3, m3, p1, body_case0 (n := n + d + 3) W.K.sorted W.gt W.ew W.q0 W.q1 W.q2 W.q3 W.e1 W.ex W.hx (mk_Var _) (sub1 d) e2 (mk_Case _ _ _ _), one_ok R1 le1' up1 (tx_up (c := 0) (tx_case0 W.ntc (tx_val W.nt d) R1.tx (kk5 d) (room4 W.small)) k3 got4) fun c1 v1 s1 => ?_⟩
  obtain ⟨K1, f1, rfl⟩ := inst_of R1.tx
  exact ⟨_, Nat.le_refl _, eq_of_val (scl_case0 s1) (List.append_nil _)⟩
structure Flds (d : Nat) (G G2 ks2 : List (Str × V)) (m m2 : Int) (us : List Str) : Prop where
  K : KOK G2 m2 ks2 d
  keep : ∀ y w, look y G = some w → look y G2 = some w
  nt : ∀ u ∈ us, NT u
  len : us.length ≤ 2
  lo : m ≤ m2
  hi : m2 ≤ m + 3
noncomputable abbrev kinds3 : List V := [.none, .str (so "Two"), .str (so "New")]
noncomputable abbrev uN (m : Int) : Str := nm (so "u") m
theorem Cas.flds0 (W : Cas d n ks G a b m met x3 x4 w a1 b1 x v a2 b2) : Flds d G G ks m (m + 1) [] := ⟨W.K1, fun _ _ h => h, (fun _ h => nomatch h), Nat.zero_le 2, le1', up1⟩
inductive One (d n : Nat) (ks G : List (Str × V)) (m : Int) (met' : List V) (x3 x4 : Option V) (a b : Int) : Prop
  | mk (y1 : V) (a4 b4 : Int) (u1 : callF W0 (n + d + 3) 634 [.reg 1, .str (so "u")] (muS a b (m + 1) met' x3 x4) = some (.val (.str (uN (m + 1 + 1))), muS a b (m + 1 + 1) met' x3 x4))
    (f1 : callF W0 (n + d + 3) 627 [.reg 0, .list kinds3] (muS a b (m + 1 + 1) met' x3 x4) = some (.val y1, muS a4 b4 (m + 1 + 1) met' x3 x4)) (F : Flds d G ((uN (m + 1 + 1), y1) :: G) (put (uN (m + 1 + 1)) y1 ks) m (m + 1 + 1) [uN (m + 1 + 1)]) : One d n ks G m met' x3 x4 a b
inductive Two (d n : Nat) (ks G : List (Str × V)) (m : Int) (met' : List V) (x3 x4 : Option V) (a b : Int) : Prop
  | mk (y1 y2 : V) (a4 b4 a5 b5 : Int) (u1 : callF W0 (n + d + 3) 634 [.reg 1, .str (so "u")] (muS a b (m + 1) met' x3 x4) = some (.val (.str (uN (m + 1 + 1))), muS a b (m + 1 + 1) met' x3 x4))
    (u2 : callF W0 (n + d + 3) 634 [.reg 1, .str (so "u")] (muS a b (m + 1 + 1) met' x3 x4) = some (.val (.str (uN (m + 1 + 1 + 1))), muS a b (m + 1 + 1 + 1) met' x3 x4))
    (f1 : callF W0 (n + d + 3) 627 [.reg 0, .list kinds3] (muS a b (m + 1 + 1 + 1) met' x3 x4) = some (.val y1, muS a4 b4 (m + 1 + 1 + 1) met' x3 x4)) (f2 : callF W0 (n + d + 3) 627 [.reg 0, .list kinds3] (muS a4 b4 (m + 1 + 1 + 1) met' x3 x4) = some (.val y2, muS a5 b5 (m + 1 + 1 + 1) met' x3 x4))
    (ne : uN (m + 1 + 1) ≠ uN (m + 1 + 1 + 1)) (F : Flds d G ((uN (m + 1 + 1 + 1), y2) :: (uN (m + 1 + 1), y1) :: G) (put (uN (m + 1 + 1 + 1)) y2 (put (uN (m + 1 + 1)) y1 ks)) m (m + 1 + 1 + 1) [uN (m + 1 + 1), uN (m + 1 + 1 + 1)]) : Two d n ks G m met' x3 x4 a b
theorem in_u : so "u" ∈ lets := by decide
theorem Cas.room (W : Cas d n ks G a b m met x3 x4 w a1 b1 x v a2 b2) : ks.length + 2 + 2 * d ≤ 30 := by have := W.K.len; omega
theorem Cas.fld1 (W : Cas d n ks G a b m met x3 x4 w a1 b1 x v a2 b2) (met' : List V) (a3 b3 : Int) : One d n ks G m met' x3 x4 a3 b3 := by
  have N := W.L.num le1' wp1
  obtain ⟨y1, a4, b4, hy1, f1⟩ := one_spec (n := n + d + 1) a3 b3 (m + 1 + 1) met' kinds3 x3 x4 (by decide) (by decide)
  obtain ⟨K, hG⟩ := W.K0.field (m' := m + 1) N.lo le1' N.hi (kv_of hy1) (Nat.le_trans (Nat.add_le_add_right (Nat.le_succ _) _) W.room)
  exact ⟨y1, a4, b4, new_ok in_u N.lo N.hi, f1, K, hG, fun u h => by rw [List.mem_singleton.mp h]; exact N.nt in_u, Nat.le_succ 1, le2', up2⟩
theorem Cas.fld2 (W : Cas d n ks G a b m met x3 x4 w a1 b1 x v a2 b2) (met' : List V) (a3 b3 : Int) : Two d n ks G m met' x3 x4 a3 b3 := by
  have N := W.L.num le1' wp1
  have N2 := W.L.num le2' wp2
  obtain ⟨y1, a4, b4, hy1, f1⟩ := one_spec (n := n + d + 1) a3 b3 (m + 1 + 1 + 1) met' kinds3 x3 x4 (by decide) (by decide)
  obtain ⟨y2, a5, b5, hy2, f2⟩ := one_spec (n := n + d + 1) a4 b4 (m + 1 + 1 + 1) met' kinds3 x3 x4 (by decide) (by decide)
  obtain ⟨K, hG⟩ := W.K0.field (m' := m + 1) N.lo le1' N.hi (kv_of hy1) (Nat.le_trans (Nat.add_le_add_right (Nat.le_succ _) _) W.room)
  obtain ⟨K2, hG2⟩ := K.field (m' := m + 1 + 1) N2.lo (Int.le_refl _) N2.hi (kv_of hy2) (Nat.le_trans (Nat.add_le_add_right (Nat.succ_le_succ (put_length _ _ _)) _) W.room)
  exact ⟨y1, y2, a4, b4, a5, b5, new_ok in_u N.lo N.hi, new_ok in_u N2.lo N2.hi, f1, f2, u_ne N.next N.hi N2.next N2.hi (Int.ne_of_lt (Int.lt_add_one_iff.mpr (Int.le_refl _))), K2, fun y w h => hG2 y w (hG y w h), fun u h => by
    rcases List.mem_cons.mp h with h | h
    · rw [h]; exact N.nt in_u
    · rw [List.mem_singleton.mp h]; exact N2.nt in_u, Nat.le_refl 2, le3', up3⟩
inductive Tail (d n : Nat) (ks2 G2 : List (Str × V)) (m2 : Int) (met' : List V) (x3 x4 : Option V) (a b : Int) : Prop
  | mk (t1 : V) (a6 b6 m6 : Int) (p1 : List (Str × Str)) (r a7 b7 : Int) (e3 : callF W0 (n + d + 3) 644 [.reg 0, .reg 1, .dictS ks2, .int d, .reg 2] (muS a b m2 met' x3 x4) = some (.val t1, muS a6 b6 m6 (met' ++ p1.map pairV) x3 x4)) (R1 : BodyR d G2 m2 t1 m6 p1)
    (e4 : callF W0 (n + d + 3) 620 [.reg 0, .int 2] (muS a6 b6 m6 (met' ++ p1.map pairV) x3 x4) = some (.val (.int r), muS a7 b7 m6 (met' ++ p1.map pairV) x3 x4)) : Tail d n ks2 G2 m2 met' x3 x4 a b
theorem Cas.tail {ks2 : List (Str × V)} {us : List Str} (W : Cas d n ks G a b m met x3 x4 w a1 b1 x v a2 b2) (ih : BodyOK d) (F : Flds d G G2 ks2 m m2 us) (hm : met'.length ≤ met.length + 1) (a3 b3 : Int) : Tail d n ks2 G2 m2 met' x3 x4 a3 b3 := by
  obtain ⟨t1, a6, b6, m6, p1, e3, R1⟩ := ih.run n F.K (W.L.first F.lo F.hi hm) a3 b3 x3 x4
  obtain ⟨r, a7, b7, _, _, e4⟩ := take_spec (n := n + d + 2) a6 b6 m6 2 (met' ++ p1.map pairV) x3 x4 (by decide) (by decide)
  exact ⟨t1, a6, b6, m6, p1, r, a7, b7, e3, R1, e4⟩
theorem Cas.fin {ks2 : List (Str × V)} {us : List Str} {m6 : Int} (W : Cas d n ks G a b m met x3 x4 w a1 b1 x (.str con) a2 b2) (hcon : con ∈ conNames) (F : Flds d G G2 ks2 m m2 us) (isv o : Bool) (R1 : BodyR d G2 m2 t1 m6 p1) :
    BodyR (d + 1) G m (vCase (if isv then vVar (.str x) else vApp (vVar (.str (so "h"))) [vVar (.str x)]) (nm (so "c") (m + 1)) [vAlt con (us.map .str) t1] (if o then vLit 0 else .none)) m6 ((if isv then [(x, con)] else []) ++ p1) :=
  case1_ok isv o R1 W.d5 W.nt W.ntc hcon F.nt F.len F.keep (W.K.agree _ _ W.hx) F.lo F.hi
theorem Cas.upd (W : Cas d n ks G a b m met x3 x4 w a1 b1 x v a2 b2) (ys : List (Str × V)) (h : ys.length ≤ 2) : ownDo .update (.dictS ks) [.dictS ys] = some (.dictS (ys.foldl (fun acc p => put p.1 p.2 acc) ks), .none) := update_ok (Nat.le_trans (Nat.add_le_add_left h _) (Nat.le_trans (Nat.le_add_right _ _) (Nat.le_trans W.room (by decide))))
theorem Cas.copy (W : Cas d n ks G a b m met x3 x4 w a1 b1 x v a2 b2) : prim 8 [.dictS ks] = some (.own (.dictS ks)) := dict_copy (Nat.le_trans (Nat.le_trans (Nat.le_trans (Nat.le_add_right _ 2) (Nat.le_add_right _ _)) W.room) (by decide))
theorem Cas.app (W : Cas d n ks G a b m met x3 x4 w a1 b1 x v a2 b2) (v : V) : ownDo .append (.list met) [v] = some (.list (met ++ [v]), .none) := append_ok (by have := W.L.len'; omega)
theorem met1 {v : V} : (met ++ [v]).length ≤ met.length + 1 := Nat.le_of_eq List.length_append
theorem ca0 (ih : BodyOK d) (W : Cas d n ks G a b m met x3 x4 w a1 b1 x (.str con) a2 b2) (hcon : con ∈ conNames) (h18 : prim 18 [.dictS [(so "Two", .int 2), (so "None", .int 0)], .str con, .int 1] = some (.val (.int 0))) {r a3 b3 : Int} (e2 : callF W0 (n + d + 3) 620 [.reg 0, .int 5] (muS a2 b2 (m + 1) met x3 x4) = some (.val (.int r), muS a3 b3 (m + 1) met x3 x4)) (hr : cmpop .Eq (.int r) (.int 0) = some true) : Res (d + 1) n ks G a b m met x3 x4 := by
  have F := W.flds0
  obtain ⟨t1, a6, b6, m6, p1, r2, a7, b7, e3, R1, e4⟩ := W.tail ih F (met' := met) (Nat.le_succ _) a3 b3
  by_cases hr2 : r2 = 0
  · exact ⟨_, a7, b7, m6, [] ++ p1, (body_case1_a0n (n := n + d + 3) W.K.sorted W.gt W.ew W.q0 W.q1 W.q2 W.q3 W.e1 W.ex W.hx is_none_str e2 hr (mk_Var _) (mk_Var _) (mk_App _ _) W.hx h18 W.copy (W.upd [] (Nat.zero_le 2)) W.hx (sub1 d) e3 (mk_Alt _ _ _) e4 (eq_true' hr2) (mk_Case _ _ _ _)).trans rfl, W.fin hcon F false false R1⟩
  · exact ⟨_, a7, b7, m6, [] ++ p1, (body_case1_a0o (n := n + d + 3) W.K.sorted W.gt W.ew W.q0 W.q1 W.q2 W.q3 W.e1 W.ex W.hx is_none_str e2 hr (mk_Var _) (mk_Var _) (mk_App _ _) W.hx h18 W.copy (W.upd [] (Nat.zero_le 2)) W.hx (sub1 d) e3 (mk_Alt _ _ _) e4 (eq_false' hr2) (mk_Lit _ _) (mk_Case _ _ _ _)).trans rfl, W.fin hcon F false true R1⟩
theorem ca1 (ih : BodyOK d) (W : Cas d n ks G a b m met x3 x4 w a1 b1 x (.str con) a2 b2) (hcon : con ∈ conNames) (h18 : prim 18 [.dictS [(so "Two", .int 2), (so "None", .int 0)], .str con, .int 1] = some (.val (.int 1))) {r a3 b3 : Int} (e2 : callF W0 (n + d + 3) 620 [.reg 0, .int 5] (muS a2 b2 (m + 1) met x3 x4) = some (.val (.int r), muS a3 b3 (m + 1) met x3 x4)) (hr : cmpop .Eq (.int r) (.int 0) = some true) : Res (d + 1) n ks G a b m met x3 x4 := by
  obtain ⟨y1, a4, b4, u1, f1, F⟩ := W.fld1 met a3 b3
  obtain ⟨t1, a6, b6, m6, p1, r2, a7, b7, e3, R1, e4⟩ := W.tail ih F (met' := met) (Nat.le_succ _) a4 b4
  by_cases hr2 : r2 = 0
  · exact ⟨_, a7, b7, m6, [] ++ p1, (body_case1_a1n (n := n + d + 3) W.K.sorted W.gt W.ew W.q0 W.q1 W.q2 W.q3 W.e1 W.ex W.hx is_none_str e2 hr (mk_Var _) (mk_Var _) (mk_App _ _) W.hx h18 u1 W.copy f1 rfl (W.upd [_] (Nat.le_succ 1)) W.hx (sub1 d) e3 (mk_Alt _ _ _) e4 (eq_true' hr2) (mk_Case _ _ _ _)).trans rfl, W.fin hcon F false false R1⟩
  · exact ⟨_, a7, b7, m6, [] ++ p1, (body_case1_a1o (n := n + d + 3) W.K.sorted W.gt W.ew W.q0 W.q1 W.q2 W.q3 W.e1 W.ex W.hx is_none_str e2 hr (mk_Var _) (mk_Var _) (mk_App _ _) W.hx h18 u1 W.copy f1 rfl (W.upd [_] (Nat.le_succ 1)) W.hx (sub1 d) e3 (mk_Alt _ _ _) e4 (eq_false' hr2) (mk_Lit _ _) (mk_Case _ _ _ _)).trans rfl, W.fin hcon F false true R1⟩
theorem ca2 (ih : BodyOK d) (W : Cas d n ks G a b m met x3 x4 w a1 b1 x (.str con) a2 b2) (hcon : con ∈ conNames) (h18 : prim 18 [.dictS [(so "Two", .int 2), (so "None", .int 0)], .str con, .int 1] = some (.val (.int 2))) {r a3 b3 : Int} (e2 : callF W0 (n + d + 3) 620 [.reg 0, .int 5] (muS a2 b2 (m + 1) met x3 x4) = some (.val (.int r), muS a3 b3 (m + 1) met x3 x4)) (hr : cmpop .Eq (.int r) (.int 0) = some true) : Res (d + 1) n ks G a b m met x3 x4 := by
  obtain ⟨y1, y2, a4, b4, a5, b5, u1, u2, f1, f2, ne, F⟩ := W.fld2 met a3 b3
  obtain ⟨t1, a6, b6, m6, p1, r2, a7, b7, e3, R1, e4⟩ := W.tail ih F (met' := met) (Nat.le_succ _) a5 b5
  by_cases hr2 : r2 = 0
  · exact ⟨_, a7, b7, m6, [] ++ p1, (body_case1_a2n (n := n + d + 3) W.K.sorted W.gt W.ew W.q0 W.q1 W.q2 W.q3 W.e1 W.ex W.hx is_none_str e2 hr (mk_Var _) (mk_Var _) (mk_App _ _) W.hx h18 u1 u2 W.copy f1 f2 (pairs2 ne) (W.upd [_, _] (Nat.le_refl 2)) W.hx (sub1 d) e3 (mk_Alt _ _ _) e4 (eq_true' hr2) (mk_Case _ _ _ _)).trans rfl, W.fin hcon F false false R1⟩
  · exact ⟨_, a7, b7, m6, [] ++ p1, (body_case1_a2o (n := n + d + 3) W.K.sorted W.gt W.ew W.q0 W.q1 W.q2 W.q3 W.e1 W.ex W.hx is_none_str e2 hr (mk_Var _) (mk_Var _) (mk_App _ _) W.hx h18 u1 u2 W.copy f1 f2 (pairs2 ne) (W.upd [_, _] (Nat.le_refl 2)) W.hx (sub1 d) e3 (mk_Alt _ _ _) e4 (eq_false' hr2) (mk_Lit _ _) (mk_Case _ _ _ _)).trans rfl, W.fin hcon F false true R1⟩
theorem cv0 (ih : BodyOK d) (W : Cas d n ks G a b m met x3 x4 w a1 b1 x (.str con) a2 b2) (hcon : con ∈ conNames) (h18 : prim 18 [.dictS [(so "Two", .int 2), (so "None", .int 0)], .str con, .int 1] = some (.val (.int 0))) {r a3 b3 : Int} (e2 : callF W0 (n + d + 3) 620 [.reg 0, .int 5] (muS a2 b2 (m + 1) met x3 x4) = some (.val (.int r), muS a3 b3 (m + 1) met x3 x4)) (hr : cmpop .Eq (.int r) (.int 0) = some false) : Res (d + 1) n ks G a b m met x3 x4 := by
  have F := W.flds0
  obtain ⟨t1, a6, b6, m6, p1, r2, a7, b7, e3, R1, e4⟩ := W.tail ih F (met' := (met ++ [pairV (x, con)])) met1 a3 b3
  by_cases hr2 : r2 = 0
  · exact ⟨_, a7, b7, m6, [(x, con)] ++ p1, (body_case1_v0n (n := n + d + 3) W.K.sorted W.gt W.ew W.q0 W.q1 W.q2 W.q3 W.e1 W.ex W.hx is_none_str e2 hr (mk_Var _) W.hx (W.app _) W.hx h18 W.copy (W.upd [] (Nat.zero_le 2)) W.hx (sub1 d) e3 (mk_Alt _ _ _) e4 (eq_true' hr2) (mk_Case _ _ _ _)).trans (by rw [mu_cons]; rfl), W.fin hcon F true false R1⟩
  · exact ⟨_, a7, b7, m6, [(x, con)] ++ p1, (body_case1_v0o (n := n + d + 3) W.K.sorted W.gt W.ew W.q0 W.q1 W.q2 W.q3 W.e1 W.ex W.hx is_none_str e2 hr (mk_Var _) W.hx (W.app _) W.hx h18 W.copy (W.upd [] (Nat.zero_le 2)) W.hx (sub1 d) e3 (mk_Alt _ _ _) e4 (eq_false' hr2) (mk_Lit _ _) (mk_Case _ _ _ _)).trans (by rw [mu_cons]; rfl), W.fin hcon F true true R1⟩
theorem cv1 (ih : BodyOK d) (W : Cas d n ks G a b m met x3 x4 w a1 b1 x (.str con) a2 b2) (hcon : con ∈ conNames) (h18 : prim 18 [.dictS [(so "Two", .int 2), (so "None", .int 0)], .str con, .int 1] = some (.val (.int 1))) {r a3 b3 : Int} (e2 : callF W0 (n + d + 3) 620 [.reg 0, .int 5] (muS a2 b2 (m + 1) met x3 x4) = some (.val (.int r), muS a3 b3 (m + 1) met x3 x4)) (hr : cmpop .Eq (.int r) (.int 0) = some false) : Res (d + 1) n ks G a b m met x3 x4 := by
  obtain ⟨y1, a4, b4, u1, f1, F⟩ := W.fld1 (met ++ [pairV (x, con)]) a3 b3
  obtain ⟨t1, a6, b6, m6, p1, r2, a7, b7, e3, R1, e4⟩ := W.tail ih F (met' := (met ++ [pairV (x, con)])) met1 a4 b4
  by_cases hr2 : r2 = 0
  · exact ⟨_, a7, b7, m6, [(x, con)] ++ p1, (body_case1_v1n (n := n + d + 3) W.K.sorted W.gt W.ew W.q0 W.q1 W.q2 W.q3 W.e1 W.ex W.hx is_none_str e2 hr (mk_Var _) W.hx (W.app _) W.hx h18 u1 W.copy f1 rfl (W.upd [_] (Nat.le_succ 1)) W.hx (sub1 d) e3 (mk_Alt _ _ _) e4 (eq_true' hr2) (mk_Case _ _ _ _)).trans (by rw [mu_cons]; rfl), W.fin hcon F true false R1⟩
  · exact ⟨_, a7, b7, m6, [(x, con)] ++ p1, (body_case1_v1o (n := n + d + 3) W.K.sorted W.gt W.ew W.q0 W.q1 W.q2 W.q3 W.e1 W.ex W.hx is_none_str e2 hr (mk_Var _) W.hx (W.app _) W.hx h18 u1 W.copy f1 rfl (W.upd [_] (Nat.le_succ 1)) W.hx (sub1 d) e3 (mk_Alt _ _ _) e4 (eq_false' hr2) (mk_Lit _ _) (mk_Case _ _ _ _)).trans (by rw [mu_cons]; rfl), W.fin hcon F true true R1⟩
theorem cv2 (ih : BodyOK d) (W : Cas d n ks G a b m met x3 x4 w a1 b1 x (.str con) a2 b2) (hcon : con ∈ conNames) (h18 : prim 18 [.dictS [(so "Two", .int 2), (so "None", .int 0)], .str con, .int 1] = some (.val (.int 2))) {r a3 b3 : Int} (e2 : callF W0 (n + d + 3) 620 [.reg 0, .int 5] (muS a2 b2 (m + 1) met x3 x4) = some (.val (.int r), muS a3 b3 (m + 1) met x3 x4)) (hr : cmpop .Eq (.int r) (.int 0) = some false) : Res (d + 1) n ks G a b m met x3 x4 := by
  obtain ⟨y1, y2, a4, b4, a5, b5, u1, u2, f1, f2, ne, F⟩ := W.fld2 (met ++ [pairV (x, con)]) a3 b3
  obtain ⟨t1, a6, b6, m6, p1, r2, a7, b7, e3, R1, e4⟩ := W.tail ih F (met' := (met ++ [pairV (x, con)])) met1 a5 b5
  by_cases hr2 : r2 = 0
  · exact ⟨_, a7, b7, m6, [(x, con)] ++ p1, (body_case1_v2n (n := n + d + 3) W.K.sorted W.gt W.ew W.q0 W.q1 W.q2 W.q3 W.e1 W.ex W.hx is_none_str e2 hr (mk_Var _) W.hx (W.app _) W.hx h18 u1 u2 W.copy f1 f2 (pairs2 ne) (W.upd [_, _] (Nat.le_refl 2)) W.hx (sub1 d) e3 (mk_Alt _ _ _) e4 (eq_true' hr2) (mk_Case _ _ _ _)).trans (by rw [mu_cons]; rfl), W.fin hcon F true false R1⟩
  · exact ⟨_, a7, b7, m6, [(x, con)] ++ p1, (body_case1_v2o (n := n + d + 3) W.K.sorted W.gt W.ew W.q0 W.q1 W.q2 W.q3 W.e1 W.ex W.hx is_none_str e2 hr (mk_Var _) W.hx (W.app _) W.hx h18 u1 u2 W.copy f1 f2 (pairs2 ne) (W.upd [_, _] (Nat.le_refl 2)) W.hx (sub1 d) e3 (mk_Alt _ _ _) e4 (eq_false' hr2) (mk_Lit _ _) (mk_Case _ _ _ _)).trans (by rw [mu_cons]; rfl), W.fin hcon F true true R1⟩
end
theorem body_step {d : Nat} (hd5 : d ≤ 5) (ih : BodyOK d) : BodyOK (d + 1) := fun n ks G a b m met x3 x4 K h0 h1 h2 => by
  obtain ⟨w, a1, b1, w0, w6, ew⟩ := take_spec (n := n + d + 2) a b m 6 met x3 x4 (by decide) (by decide)
  have W : Way d n ks G a b m met x3 x4 w a1 b1 := ⟨K, ⟨h0, h1, h2⟩, gt_true (Int.ofNat_lt.mpr (Nat.succ_pos d)), ew, LL_le d (Nat.le_succ_of_le hd5), hd5⟩
  by_cases hw0 : w = 0
  · exact way0 (hw0 ▸ W)
  by_cases hw1 : w = 1
  · exact way1 ih (hw1 ▸ W)
  by_cases hw2 : w = 2
  · exact way2 ih (hw2 ▸ W)
  by_cases hw3 : w = 3
  · exact way3 ih (hw3 ▸ W)
  obtain ⟨x, v, a2, b2, hx, hnt, hv, e1⟩ := K.one (n + d + 1) a1 b1 m met x3 x4
  have N := W.L.num (Int.le_refl m) wp0
  have C : Cas d n ks G a b m met x3 x4 w a1 b1 x v a2 b2 := ⟨W, eq_false' hw0, eq_false' hw1, eq_false' hw2, eq_false' hw3, hx, hnt, e1, new_ok (by decide) N.lo N.hi⟩
  rcases hv with rfl | ⟨con, hcon, rfl⟩
  · exact case_none ih C
  obtain ⟨k, hk2, h18⟩ := prim18 hcon
  obtain ⟨r, a3, b3, _, _, e2⟩ := take_spec (n := n + d + 2) a2 b2 (m + 1) 5 met x3 x4 (by decide) (by decide)
  by_cases hr : r = 0
  · match k, hk2, h18 with
    | 0, _, h18 => exact ca0 ih C hcon h18 e2 (eq_true' hr)
    | 1, _, h18 => exact ca1 ih C hcon h18 e2 (eq_true' hr)
    | 2, _, h18 => exact ca2 ih C hcon h18 e2 (eq_true' hr)
    | k + 3, h, _ => exact absurd h (Nat.not_le_of_lt (Nat.le_add_left 3 k))
  · match k, hk2, h18 with
    | 0, _, h18 => exact cv0 ih C hcon h18 e2 (eq_false' hr)
    | 1, _, h18 => exact cv1 ih C hcon h18 e2 (eq_false' hr)
    | 2, _, h18 => exact cv2 ih C hcon h18 e2 (eq_false' hr)
    | k + 3, h, _ => exact absurd h (Nat.not_le_of_lt (Nat.le_add_left 3 k))
end Mini
namespace Mini
noncomputable def scrEnd (wf : Nat) (p : Fl × St) : P.Ans (Slot × Mu) := flow p (fun σ' => blkM wf (evs 40 scrS) scrS (blk wf scrS 7) [nthD noStmt (bodyOf (stmtAt 14)) 2] σ' (fun σ' => .ret (.val .none, σ'.2)) fun sl σ' => .ret (sl, σ'.2)) fun sl σ' => .ret (sl, σ'.2)
theorem scr_open {wf : Nat} {t : V} {μ : Mu} {cs : List (Str × V)} : callT wf 399 [t, .dictS cs] μ = (whileM (evs 40 scrS) scrT ((blk wf scrS 7).fl scrB) wf (SJ .a t cs [t] [] μ .none .none)).bind (scrEnd wf) := by kernel_rfl
section
variable {C : CallT} {k : Nat} {v0 h a : V} {fs : List (Str × V)} {μ : Mu}
theorem endJ {j : J} : whileS C (k + 1) (SJ j v0 consL [] fs μ h a) = some (.next, SJ j v0 consL [] fs μ h a) := by
  show P.run C ((evs 40 scrS).b scrT (SJ j v0 consL [] fs μ h a) _) = _
  rw [test_J]
  rfl
theorem retJ {j : J} : P.run C (scrEnd W0 (.next, SJ j v0 consL [] fs μ h a)) = some (.val (.dictS fs), μ) := by cases j <;> kernel_rfl
end
theorem scr_spec {t : V} {cost : Nat} {vis : List (Str × Str)} (h : Scl [t] cost vis) (hc : cost ≤ 90) (n : Nat) (μ : Mu) : callF W0 (n + 3) 399 [t, .dictS consL] μ = some (.val (.dictS (foldP [] vis)), μ) := by
  obtain ⟨σ', s', e⟩ := h.2 n (99 - cost + 1) t [] [] μ (SJ .a t consL [t] [] μ .none .none) (show 0 + 1 + 10 * cost ≤ 100000 by omega) (show 0 + cost ≤ 100000 by omega) (.mk .a _ _)
  show P.run (callF W0 (n + 2)) (callT W0 399 [t, .dictS consL] μ) = _
  rw [scr_open, run_bind]
  have e' : whileS (callF W0 (n + 2)) 100 (SJ .a t consL [t] [] μ .none .none) = some (.next, σ') := by
    rw [show (100 : Nat) = 99 - cost + 1 + cost by omega, e]
    cases s' with
    | mk j h a => exact endJ
  show (whileS (callF W0 (n + 2)) 100 (SJ .a t consL [t] [] μ .none .none)).bind _ = _
  rw [e']
  cases s' with
  | mk j h a => exact retJ
end Mini
namespace Mini
theorem put_keys {k : Str} {v : V} {x : Str} : ∀ {ks : List (Str × V)}, x ∈ (put k v ks).map (·.1) ↔ x = k ∨ x ∈ ks.map (·.1)
  | [] => by simp [put]
  | (y, w) :: r => by
    unfold put
    cases hy : y == k with
    | true =>
      have := eq_of_beq hy
      subst this
      simp
    | false =>
      simp only [List.map_cons, List.mem_cons]
      rw [put_keys]
      constructor
      · rintro (h | h | h) <;> simp [h]
      · rintro (h | h | h) <;> simp [h]
theorem put_nodup {k : Str} {v : V} : ∀ {ks : List (Str × V)}, (ks.map (·.1)).Nodup → ((put k v ks).map (·.1)).Nodup
  | [], _ => by simp [put]
  | (y, w) :: r, h => by
    obtain ⟨h1, h2⟩ := List.nodup_cons.mp (show (y :: r.map (·.1)).Nodup from h)
    unfold put
    cases hy : y == k with
    | true => exact h
    | false =>
      refine List.nodup_cons.mpr ⟨fun q => ?_, put_nodup h2⟩
      rcases put_keys.mp q with e | e
      · exact (beq_eq_false_iff_ne.mp hy) e
      · exact h1 e
theorem foldP_keys {x : Str} : ∀ {l : List (Str × Str)} {fs : List (Str × V)}, x ∈ (foldP fs l).map (·.1) ↔ x ∈ l.map (·.1) ∨ x ∈ fs.map (·.1)
  | [], fs => by simp [foldP]
  | p :: r, fs => by
    show x ∈ (foldP (put p.1 (.str p.2) fs) r).map (·.1) ↔ _
    rw [foldP_keys, put_keys, List.map_cons, List.mem_cons]
    constructor
    · rintro (h | h | h) <;> simp [h]
    · rintro ((h | h) | h) <;> simp [h]
theorem foldP_nodup : ∀ {l : List (Str × Str)} {fs : List (Str × V)}, (fs.map (·.1)).Nodup → ((foldP fs l).map (·.1)).Nodup
  | [], _, h => h
  | p :: r, fs, h => foldP_nodup (l := r) (put_nodup h)
theorem foldP_vals {G : List (Str × V)} : ∀ {l : List (Str × Str)} {fs : List (Str × V)}, (∀ p ∈ l, look p.1 G = some (.str p.2)) → (∀ p ∈ fs, ∃ s, p.2 = .str s ∧ look p.1 G = some (.str s)) → ∀ p ∈ foldP fs l, ∃ s, p.2 = .str s ∧ look p.1 G = some (.str s)
  | [], _, _, h => h
  | q :: r, fs, h1, h2 => foldP_vals (l := r) (fun p hp => h1 p (List.mem_cons_of_mem _ hp)) fun p hp => by
    rcases mem_put hp with e | hp
    · subst e; exact ⟨_, rfl, h1 q List.mem_cons_self⟩
    · exact h2 p hp
theorem veqd_true : ∀ {xs ys : List (Str × V)}, (∀ p ∈ xs, ∃ s, p.2 = .str s ∧ look p.1 ys = some (.str s)) → veqd xs ys = some true
  | [], _, _ => rfl
  | (k, x) :: r, ys, h => by
    obtain ⟨s, e1, e2⟩ := h (k, x) List.mem_cons_self
    dsimp only at e1 e2
    subst e1
    show elo (look k ys) (fun y => (veq (.str s) y).bind fun a => (veqd r ys).map fun b => a && b) _ = _
    rw [e2]
    show (some (s == s)).bind (fun a => (veqd r ys).map fun b => a && b) = some true
    rw [beq_self_eq_true, veqd_true fun p hp => h p (List.mem_cons_of_mem _ hp)]
    rfl
theorem same_len {α : Type} [DecidableEq α] {a b : List α} (ha : a.Nodup) (hb : b.Nodup) (h : ∀ x, x ∈ a ↔ x ∈ b) : a.length = b.length :=
  Nat.le_antisymm (List.Nodup.length_le_of_subset ha fun x hx => (h x).mp hx) (List.Nodup.length_le_of_subset hb fun x hx => (h x).mpr hx)
theorem tab_eq {G : List (Str × V)} {a b : List (Str × Str)} (h : ∀ p, p ∈ a ↔ p ∈ b) (hG : ∀ p ∈ b, look p.1 G = some (.str p.2)) : cmpEq (.dictS (foldP [] a)) (.dictS (foldP [] b)) = some true := by
  have na := foldP_nodup (l := a) (fs := []) (by simp)
  have nb := foldP_nodup (l := b) (fs := []) (by simp)
  have hk : ∀ x, x ∈ (foldP [] a).map (·.1) ↔ x ∈ (foldP [] b).map (·.1) := fun x => by
    rw [foldP_keys, foldP_keys]
    simp only [List.map_nil, List.not_mem_nil, or_false, List.mem_map]
    constructor
    · rintro ⟨p, hp, e⟩; exact ⟨p, (h p).mp hp, e⟩
    · rintro ⟨p, hp, e⟩; exact ⟨p, (h p).mpr hp, e⟩
  have hl := same_len na nb hk
  rw [List.length_map, List.length_map] at hl
  have va := foldP_vals (G := G) (l := a) (fs := []) (fun p hp => hG p ((h p).mp hp)) (by simp)
  have vb := foldP_vals (G := G) (l := b) (fs := []) hG (by simp)
  show bro ((foldP [] a).length == (foldP [] b).length) (veqd (foldP [] a) (foldP [] b)) (some false) = _
  rw [hl, beq_self_eq_true]
  refine veqd_true fun p hp => ?_
  obtain ⟨s, e1, e2⟩ := va p hp
  refine ⟨s, e1, ?_⟩
  obtain ⟨v, g1, g2⟩ := look_mem ((hk p.1).mp (List.mem_map_of_mem hp))
  obtain ⟨s', e3, e4⟩ := vb _ g2
  dsimp only at e3 e4
  rw [e2] at e4
  injection e4 with e4
  injection e4 with e4
  rw [g1, e3, e4]
theorem tab_look {G : List (Str × V)} {b : List (Str × Str)} (hG : ∀ p ∈ b, look p.1 G = some (.str p.2)) (x : Str) : look x (foldP [] b) = none ∨ ∃ c, look x (foldP [] b) = some (.str c) ∧ (x, c) ∈ b := by
  cases e : look x (foldP [] b) with
  | none => exact .inl rfl
  | some v =>
    right
    obtain ⟨s, e1, e2⟩ := foldP_vals (G := G) (l := b) (fs := []) hG (by simp) _ (look_some_mem e)
    dsimp only at e1 e2
    subst e1
    refine ⟨s, rfl, ?_⟩
    have hx : x ∈ (foldP [] b).map (·.1) := List.mem_map_of_mem (look_some_mem e)
    rw [foldP_keys] at hx
    obtain ⟨p, hp, ep⟩ := List.mem_map.mp (hx.resolve_right (by simp))
    have := hG p hp
    rw [ep, e2] at this
    injection this with this
    injection this with this
    obtain ⟨p1, p2⟩ := p
    dsimp only at ep this
    subst ep this
    exact hp
theorem tab_same {G : List (Str × V)} {a b : List (Str × Str)} (h : ∀ p, p ∈ a ↔ p ∈ b) (hG : ∀ p ∈ b, look p.1 G = some (.str p.2)) (x : Str) : look x (foldP [] a) = look x (foldP [] b) := by
  have hGa : ∀ p ∈ a, look p.1 G = some (.str p.2) := fun p hp => hG p ((h p).mp hp)
  have key : ∀ {a b : List (Str × Str)}, (∀ p ∈ a, p ∈ b) → (∀ p ∈ a, look p.1 G = some (.str p.2)) → (∀ p ∈ b, look p.1 G = some (.str p.2)) → ∀ v, look x (foldP [] a) = some v → look x (foldP [] b) = some v := fun {a b} hab ha hb v e => by
    rcases tab_look ha x with q | ⟨c, q, m⟩
    · rw [q] at e; cases e
    · rw [q] at e; cases e
      have hx : x ∈ (foldP [] b).map (·.1) := foldP_keys.mpr (.inl (List.mem_map_of_mem (hab _ m)))
      obtain ⟨w, g1, g2⟩ := look_mem hx
      obtain ⟨s, e1, e2⟩ := foldP_vals (G := G) (l := b) (fs := []) hb (by simp) _ g2
      dsimp only at e1 e2
      have := ha _ m
      dsimp only at this
      rw [this] at e2
      injection e2 with e2
      injection e2 with e2
      rw [g1, e1, e2]
  cases e : look x (foldP [] a) with
  | some v => exact (key (fun p hp => (h p).mp hp) hGa hG v e).symm
  | none =>
    cases e' : look x (foldP [] b) with
    | none => rfl
    | some v => rw [key (fun p hp => (h p).mpr hp) hG hGa v e'] at e; cases e
end Mini
namespace Mini
noncomputable def lawS : Scope := scopeOf (stmtAt 51)
noncomputable def noE : Expr := .Constant .none 0 ⟨0, 0, 0, 0⟩
noncomputable def lawSt (i : Nat) : Stmt := nthD noStmt (bodyOf (stmtAt 51)) i
noncomputable def firstArg : Expr → Expr
  | .Call _ (e :: _) _ _ => e
  | _ => noE
noncomputable def valueOf : Stmt → Expr
  | .Assign _ v _ => v
  | .If t _ _ _ => t
  | .Return (some e) _ => e
  | _ => noE
noncomputable def cmpLeft : Expr → Expr
  | .Compare l _ _ _ => l
  | _ => noE
noncomputable def orFirst : Expr → Expr
  | .BoolOp _ (e :: _) _ => e
  | _ => noE
noncomputable def E5 : Expr := firstArg (valueOf (lawSt 5))
noncomputable def E7 : Expr := valueOf (lawSt 7)
noncomputable def E10 : Expr := valueOf (lawSt 10)
noncomputable def E11 : Expr := valueOf (lawSt 11)
noncomputable def E12 : Expr := cmpLeft (valueOf (lawSt 12))
noncomputable def E13 : Expr := firstArg (valueOf (lawSt 13))
noncomputable def E14 : Expr := cmpLeft (orFirst (valueOf (lawSt 14)))
noncomputable def tEach (d : Nat) (e : Expr) (xs : List V) (σ : St) : P.Ans (List V × St) := match e with
  | .ListComp elt [g] scope _ => eachL (reScope scope lawS) (evs d (reScope scope lawS)) g.target g.ifs elt xs σ
  | _ => .fail
noncomputable def cEach (C : CallT) (d : Nat) (e : Expr) (xs : List V) (σ : St) : Option (List V × St) := P.run C (tEach d e xs σ)
noncomputable def gLine (e : Expr) : Nat := match e with
  | .ListComp _ [g] _ _ => g.iter.pos.line
  | _ => 0
noncomputable def eachLaw (g : Comprehension) : Bool := Nat.beq g.iter.pos.line (gLine E5) || Nat.beq g.iter.pos.line (gLine E7) || Nat.ble (gLine E10) g.iter.pos.line
end Mini
namespace Mini
noncomputable def mdL : P.Md := { md0 with cmp := fun op => (match op with | .NotEq => true | _ => false), bin := true, prim := fun n => Nat.beq n 8 || Nat.beq n 5 || Nat.beq n 0, each := eachLaw, set := true, fits := true }
section
variable {n : Nat} {a0 b0 a1 b1 a2 b2 a3 b3 a4 b4 a5 b5 a6 b6 a7 b7 a8 b8 a9 b9 m len : Int} {v1 v2 v3 v4 sg wk wr scr : V} {kb k1 k2 k3 : Addr} {fb f1 f2 f3 cs due found nd nd1 : List (Str × V)} {met prs flags splits rows wanted ab fl strung bad all : List V} {ahead tw tp : Str} {ρ5 ρ7 ρ10 ρ11 ρ12 ρ13 ρ14 : List (Str × Slot)}
theorem law_road_1 (h0 : callF W0 n 613 [scr, .int 0] [none, none, none, none, none] = some (.own (.list [.int a0, .int b0]), [none, none, none, none, none])) (h1 : callF W0 n 620 [.reg 0, .int 4] (muS a0 b0 0 [] none none) = some (.val (.int 0), muS a1 b1 0 [] none none)) (h4 : callF W0 n 634 [.reg 1, .str (so "p")] (muS a1 b1 0 [] none none) = some (.val (.str (so "p1")), muS a1 b1 1 [] none none)) (h7 : callF W0 n 627 [.reg 0, .list [.str (so "Two"), .str (so "One"), .str (so "Two"), .str (so "Left"), .str (so "New"), .str (so "None"), .none]] (muS a1 b1 1 [] none none) = some (.val v1, muS a2 b2 1 [] none none)) (h9 : prim 8 [.list [.tuple [.str (so "p1"), v1]]] = some (.own (.dictS [(so "p1", v1)]))) (h10 : callF W0 n 644 [.reg 0, .reg 1, .dictS [(so "p1", v1)], .int 3, .reg 2] (muS a2 b2 1 [] none none) = some (.val (.inst k9 fb), muS a6 b6 m met none none)) (h11 : callF W0 n 183 [.list [.str (so "p1")], .inst k9 fb] (muS a6 b6 m met none none) = some (.val (vLam [.str (so "p1")] (.inst k9 fb)), muS a6 b6 m met none none)) (h12 : callF W0 n 639 [] (muS a6 b6 m met none none) = some (.own (.dictS cs), muS a6 b6 m met none none)) (h13 : callF W0 n 513 [vLam [.str (so "p1")] (.inst k9 fb)] (muS a6 b6 m met none none) = some (.val (.str ahead), muS a6 b6 m met none none)) (h14 : Mini.fits (List.length (met : List V)) = true) (h15 : cEach (callF W0 n) 38 E5 met ([], [some (.list [.int a6, .int b6]), some (.dictS [(so "many", .int m)]), some (.fn 99), none, none]) = some (prs, (ρ5, [some (.list [.int a6, .int b6]), some (.dictS [(so "many", .int m)]), some (.fn 99), none, none]))) (h16 : Mini.fits (List.length (met : List V) + List.length (prs : List V)) = true) (h17 : prim 8 [.list prs] = some (.own (.dictS due))) (h18 : callF W0 n 399 [.inst k9 fb, .dictS cs] (muS a6 b6 m met none none) = some (.val (.dictS found), muS a6 b6 m met none none)) (h19 : cmpop .NotEq (.dictS found) (.dictS due) = some false) (h20 : Mini.fits (List.length ([.str (so "p1")] : List V)) = true) (h21 : cEach (callF W0 n) 39 E7 [.str (so "p1")] ([(so "source", .val (.reg 0))], muS a6 b6 m met none none) = some (flags, (ρ7, muS a7 b7 m met none none))) (h22 : Mini.fits (List.length ([.str (so "p1")] : List V) + List.length (flags : List V)) = true) (h23 : callF W0 n 602 [.list [.str (so "h"), .str (so "w")]] (muS a7 b7 m met none none) = some (.val (frI), μS a7 b7 m met [])) (h24 : callF W0 n 558 [.list flags, .dictS [], .bool false] (μS a7 b7 m met []) = some (.val sg, μS a7 b7 m met [])) (h25 : callF W0 n 404 [vLam [.str (so "p1")] (.inst k9 fb), sg, .dictS cs, frI] (μS a7 b7 m met []) = some (.val (.list splits), μS a7 b7 m met nd)) (h26 : Mini.fits (List.length (splits : List V)) = true) (h27 : cEach (callF W0 n) 39 E10 splits ([], μS a7 b7 m met nd) = some (rows, (ρ10, μS a7 b7 m met nd))) (h28 : Mini.fits (List.length (splits : List V) + List.length (rows : List V)) = true) (h30 : Mini.fits (List.length ([.int 0] : List V)) = true) (h31 : cEach (callF W0 n) 39 E11 [.int 0] ([(so "due", .val (.dictS due)), (so "flags", .val (.list flags)), (so "params", .val (.list [.str (so "p1")]))], μS a7 b7 m met nd) = some (wanted, (ρ11, μS a7 b7 m met nd))) (h32 : Mini.fits (List.length ([.int 0] : List V) + List.length (wanted : List V)) = true) (h33 : Mini.fits (List.length (rows : List V)) = true) (h34 : cEach (callF W0 n) 38 E12 rows ([], μS a7 b7 m met nd) = some (ab, (ρ12, μS a7 b7 m met nd))) (h35 : Mini.fits (List.length (rows : List V) + List.length (ab : List V)) = true) (h36 : cmpop .NotEq (.list ab) (.list wanted) = some false) (h37 : Mini.fits (List.length (rows : List V)) = true) (h38 : cEach (callF W0 n) 38 E13 rows ([], μS a7 b7 m met nd) = some (fl, (ρ13, μS a7 b7 m met nd))) (h39 : Mini.fits (List.length (rows : List V) + List.length (fl : List V)) = true) (h40 : prim 5 [.list fl, .list []] = some (.val (.list strung))) (h41 : Mini.fits (List.length (rows : List V)) = true) (h42 : cEach (callF W0 n) 37 E14 rows ([(so "cons", .val (.dictS cs))], μS a7 b7 m met nd) = some (bad, (ρ14, μS a7 b7 m met nd))) (h43 : Mini.fits (List.length (rows : List V) + List.length (bad : List V)) = true) (h44 : cmpop .NotEq (.list bad) (.list []) = some false) (h45 : binop .Add (.list strung) (.list [.str (so "p1")]) = some (.own (.list all))) (h46 : lenset all = some (.int len)) (h47 : binop .Add (.list strung) (.list [.str (so "p1")]) = some (.own (.list all))) (h48 : prim 0 [.list all] = some (.val (.int len))) (h49 : cmpop .NotEq (.int len) (.int len) = some false) (h50 : callF W0 n 409 [vLam [.str (so "p1")] (.inst k9 fb), .list splits] (μS a7 b7 m met nd) = some (.val wk, μS a7 b7 m met nd)) (h51 : callF W0 n 513 [wk] (μS a7 b7 m met nd) = some (.val (.str tw), μS a7 b7 m met nd)) (h52 : callF W0 n 649 [vLam [.str (so "p1")] (.inst k9 fb), .list rows] (μS a7 b7 m met nd) = some (.val (.str tp), μS a7 b7 m met nd)) (h53 : cmpop .NotEq (.str tw) (.str tp) = some false) (h54 : callF W0 n 513 [vLam [.str (so "p1")] (.inst k9 fb)] (μS a7 b7 m met nd) = some (.val (.str ahead), μS a7 b7 m met nd)) (h55 : cmpop .NotEq (.str ahead) (.str ahead) = some false) (h56 : callF W0 n 414 [vLam [.str (so "p1")] (.inst k9 fb), .list splits, .str (so "w"), frI] (μS a7 b7 m met nd) = some (.val wr, μS a7 b7 m met nd1)) (h57 : callF W0 n 654 [vLam [.str (so "p1")] (.inst k9 fb), .list rows, wr] (μS a7 b7 m met nd1) = some (.val (.bool true), μS a7 b7 m met nd1)) : callF W0 (n + 1) 659 [scr] [none, none, none, none, none] = some (.val (.bool true), μS a7 b7 m met nd1) :=
  call_play mdL [.call (.own (.list [.int a0, .int b0])) [none, none, none, none, none], .call (.val (.int 0)) (muS a1 b1 0 [] none none), .slot (.val (.int 1)), .call (.val (.str (so "p1"))) (muS a1 b1 1 [] none none), .call (.val v1) (muS a2 b2 1 [] none none), .slot (.own (.dictS [(so "p1", v1)])), .call (.val (.inst k9 fb)) (muS a6 b6 m met none none), .call (.val (vLam [.str (so "p1")] (.inst k9 fb))) (muS a6 b6 m met none none), .call (.own (.dictS cs)) (muS a6 b6 m met none none), .call (.val (.str ahead)) (muS a6 b6 m met none none), .lst prs (ρ5, [some (.list [.int a6, .int b6]), some (.dictS [(so "many", .int m)]), some (.fn 99), none, none]), .slot (.own (.dictS due)), .call (.val (.dictS found)) (muS a6 b6 m met none none), .bool false, .lst flags (ρ7, muS a7 b7 m met none none), .call (.val (frI)) (μS a7 b7 m met []), .call (.val sg) (μS a7 b7 m met []), .call (.val (.list splits)) (μS a7 b7 m met nd), .lst rows (ρ10, μS a7 b7 m met nd), .slot (.val (.int 1)), .lst wanted (ρ11, μS a7 b7 m met nd), .lst ab (ρ12, μS a7 b7 m met nd), .bool false, .lst fl (ρ13, μS a7 b7 m met nd), .slot (.val (.list strung)), .lst bad (ρ14, μS a7 b7 m met nd), .bool false, .slot (.own (.list all)), .val (.int len), .slot (.own (.list all)), .slot (.val (.int len)), .bool false, .call (.val wk) (μS a7 b7 m met nd), .call (.val (.str tw)) (μS a7 b7 m met nd), .call (.val (.str tp)) (μS a7 b7 m met nd), .bool false, .call (.val (.str ahead)) (μS a7 b7 m met nd), .bool false, .call (.val wr) (μS a7 b7 m met nd1), .call (.val (.bool true)) (μS a7 b7 m met nd1)] (ah h0 h1 (show binop .Add (.int 1) (.int 0) = some (.val (.int 1)) from rfl) (show true = true from rfl) h4 (show true = true from rfl) (show true = true from rfl) h7 (ah (show true = true from rfl) h9 h10 h11 h12 h13 h14 h15 (ah h16 h17 h18 h19 h20 h21 h22 h23 (ah h24 h25 h26 h27 h28 (show prim 0 [.list [.str (so "p1")]] = some (.val (.int 1)) from rfl) h30 h31 (ah h32 h33 h34 h35 h36 h37 h38 h39 (ah h40 h41 h42 h43 h44 h45 h46 h47 (ah h48 h49 h50 h51 h52 h53 h54 h55 (ai h56 (ai h57 trivial))))))))) (by kernel_rfl)
theorem law_road_2 (h0 : callF W0 n 613 [scr, .int 0] [none, none, none, none, none] = some (.own (.list [.int a0, .int b0]), [none, none, none, none, none])) (h1 : callF W0 n 620 [.reg 0, .int 4] (muS a0 b0 0 [] none none) = some (.val (.int 1), muS a1 b1 0 [] none none)) (h4 : callF W0 n 634 [.reg 1, .str (so "p")] (muS a1 b1 0 [] none none) = some (.val (.str (so "p1")), muS a1 b1 1 [] none none)) (h5 : callF W0 n 634 [.reg 1, .str (so "p")] (muS a1 b1 1 [] none none) = some (.val (.str (so "p2")), muS a1 b1 2 [] none none)) (h8 : callF W0 n 627 [.reg 0, .list [.str (so "Two"), .str (so "One"), .str (so "Two"), .str (so "Left"), .str (so "New"), .str (so "None"), .none]] (muS a1 b1 2 [] none none) = some (.val v1, muS a2 b2 2 [] none none)) (h9 : callF W0 n 627 [.reg 0, .list [.str (so "Two"), .str (so "One"), .str (so "Two"), .str (so "Left"), .str (so "New"), .str (so "None"), .none]] (muS a2 b2 2 [] none none) = some (.val v2, muS a3 b3 2 [] none none)) (h11 : prim 8 [.list [.tuple [.str (so "p1"), v1], .tuple [.str (so "p2"), v2]]] = some (.own (.dictS [(so "p1", v1), (so "p2", v2)]))) (h12 : callF W0 n 644 [.reg 0, .reg 1, .dictS [(so "p1", v1), (so "p2", v2)], .int 3, .reg 2] (muS a3 b3 2 [] none none) = some (.val (.inst k9 fb), muS a6 b6 m met none none)) (h13 : callF W0 n 183 [.list [.str (so "p1"), .str (so "p2")], .inst k9 fb] (muS a6 b6 m met none none) = some (.val (vLam [.str (so "p1"), .str (so "p2")] (.inst k9 fb)), muS a6 b6 m met none none)) (h14 : callF W0 n 639 [] (muS a6 b6 m met none none) = some (.own (.dictS cs), muS a6 b6 m met none none)) (h15 : callF W0 n 513 [vLam [.str (so "p1"), .str (so "p2")] (.inst k9 fb)] (muS a6 b6 m met none none) = some (.val (.str ahead), muS a6 b6 m met none none)) (h16 : Mini.fits (List.length (met : List V)) = true) (h17 : cEach (callF W0 n) 38 E5 met ([], [some (.list [.int a6, .int b6]), some (.dictS [(so "many", .int m)]), some (.fn 99), none, none]) = some (prs, (ρ5, [some (.list [.int a6, .int b6]), some (.dictS [(so "many", .int m)]), some (.fn 99), none, none]))) (h18 : Mini.fits (List.length (met : List V) + List.length (prs : List V)) = true) (h19 : prim 8 [.list prs] = some (.own (.dictS due))) (h20 : callF W0 n 399 [.inst k9 fb, .dictS cs] (muS a6 b6 m met none none) = some (.val (.dictS found), muS a6 b6 m met none none)) (h21 : cmpop .NotEq (.dictS found) (.dictS due) = some false) (h22 : Mini.fits (List.length ([.str (so "p1"), .str (so "p2")] : List V)) = true) (h23 : cEach (callF W0 n) 39 E7 [.str (so "p1"), .str (so "p2")] ([(so "source", .val (.reg 0))], muS a6 b6 m met none none) = some (flags, (ρ7, muS a7 b7 m met none none))) (h24 : Mini.fits (List.length ([.str (so "p1"), .str (so "p2")] : List V) + List.length (flags : List V)) = true) (h25 : callF W0 n 602 [.list [.str (so "h"), .str (so "w")]] (muS a7 b7 m met none none) = some (.val (frI), μS a7 b7 m met [])) (h26 : callF W0 n 558 [.list flags, .dictS [], .bool false] (μS a7 b7 m met []) = some (.val sg, μS a7 b7 m met [])) (h27 : callF W0 n 404 [vLam [.str (so "p1"), .str (so "p2")] (.inst k9 fb), sg, .dictS cs, frI] (μS a7 b7 m met []) = some (.val (.list splits), μS a7 b7 m met nd)) (h28 : Mini.fits (List.length (splits : List V)) = true) (h29 : cEach (callF W0 n) 39 E10 splits ([], μS a7 b7 m met nd) = some (rows, (ρ10, μS a7 b7 m met nd))) (h30 : Mini.fits (List.length (splits : List V) + List.length (rows : List V)) = true) (h32 : Mini.fits (List.length ([.int 0, .int 1] : List V)) = true) (h33 : cEach (callF W0 n) 39 E11 [.int 0, .int 1] ([(so "due", .val (.dictS due)), (so "flags", .val (.list flags)), (so "params", .val (.list [.str (so "p1"), .str (so "p2")]))], μS a7 b7 m met nd) = some (wanted, (ρ11, μS a7 b7 m met nd))) (h34 : Mini.fits (List.length ([.int 0, .int 1] : List V) + List.length (wanted : List V)) = true) (h35 : Mini.fits (List.length (rows : List V)) = true) (h36 : cEach (callF W0 n) 38 E12 rows ([], μS a7 b7 m met nd) = some (ab, (ρ12, μS a7 b7 m met nd))) (h37 : Mini.fits (List.length (rows : List V) + List.length (ab : List V)) = true) (h38 : cmpop .NotEq (.list ab) (.list wanted) = some false) (h39 : Mini.fits (List.length (rows : List V)) = true) (h40 : cEach (callF W0 n) 38 E13 rows ([], μS a7 b7 m met nd) = some (fl, (ρ13, μS a7 b7 m met nd))) (h41 : Mini.fits (List.length (rows : List V) + List.length (fl : List V)) = true) (h42 : prim 5 [.list fl, .list []] = some (.val (.list strung))) (h43 : Mini.fits (List.length (rows : List V)) = true) (h44 : cEach (callF W0 n) 37 E14 rows ([(so "cons", .val (.dictS cs))], μS a7 b7 m met nd) = some (bad, (ρ14, μS a7 b7 m met nd))) (h45 : Mini.fits (List.length (rows : List V) + List.length (bad : List V)) = true) (h46 : cmpop .NotEq (.list bad) (.list []) = some false) (h47 : binop .Add (.list strung) (.list [.str (so "p1"), .str (so "p2")]) = some (.own (.list all))) (h48 : lenset all = some (.int len)) (h49 : binop .Add (.list strung) (.list [.str (so "p1"), .str (so "p2")]) = some (.own (.list all))) (h50 : prim 0 [.list all] = some (.val (.int len))) (h51 : cmpop .NotEq (.int len) (.int len) = some false) (h52 : callF W0 n 409 [vLam [.str (so "p1"), .str (so "p2")] (.inst k9 fb), .list splits] (μS a7 b7 m met nd) = some (.val wk, μS a7 b7 m met nd)) (h53 : callF W0 n 513 [wk] (μS a7 b7 m met nd) = some (.val (.str tw), μS a7 b7 m met nd)) (h54 : callF W0 n 649 [vLam [.str (so "p1"), .str (so "p2")] (.inst k9 fb), .list rows] (μS a7 b7 m met nd) = some (.val (.str tp), μS a7 b7 m met nd)) (h55 : cmpop .NotEq (.str tw) (.str tp) = some false) (h56 : callF W0 n 513 [vLam [.str (so "p1"), .str (so "p2")] (.inst k9 fb)] (μS a7 b7 m met nd) = some (.val (.str ahead), μS a7 b7 m met nd)) (h57 : cmpop .NotEq (.str ahead) (.str ahead) = some false) (h58 : callF W0 n 414 [vLam [.str (so "p1"), .str (so "p2")] (.inst k9 fb), .list splits, .str (so "w"), frI] (μS a7 b7 m met nd) = some (.val wr, μS a7 b7 m met nd1)) (h59 : callF W0 n 654 [vLam [.str (so "p1"), .str (so "p2")] (.inst k9 fb), .list rows, wr] (μS a7 b7 m met nd1) = some (.val (.bool true), μS a7 b7 m met nd1)) : callF W0 (n + 1) 659 [scr] [none, none, none, none, none] = some (.val (.bool true), μS a7 b7 m met nd1) :=
  call_play mdL [.call (.own (.list [.int a0, .int b0])) [none, none, none, none, none], .call (.val (.int 1)) (muS a1 b1 0 [] none none), .slot (.val (.int 2)), .call (.val (.str (so "p1"))) (muS a1 b1 1 [] none none), .call (.val (.str (so "p2"))) (muS a1 b1 2 [] none none), .call (.val v1) (muS a2 b2 2 [] none none), .call (.val v2) (muS a3 b3 2 [] none none), .slot (.own (.dictS [(so "p1", v1), (so "p2", v2)])), .call (.val (.inst k9 fb)) (muS a6 b6 m met none none), .call (.val (vLam [.str (so "p1"), .str (so "p2")] (.inst k9 fb))) (muS a6 b6 m met none none), .call (.own (.dictS cs)) (muS a6 b6 m met none none), .call (.val (.str ahead)) (muS a6 b6 m met none none), .lst prs (ρ5, [some (.list [.int a6, .int b6]), some (.dictS [(so "many", .int m)]), some (.fn 99), none, none]), .slot (.own (.dictS due)), .call (.val (.dictS found)) (muS a6 b6 m met none none), .bool false, .lst flags (ρ7, muS a7 b7 m met none none), .call (.val (frI)) (μS a7 b7 m met []), .call (.val sg) (μS a7 b7 m met []), .call (.val (.list splits)) (μS a7 b7 m met nd), .lst rows (ρ10, μS a7 b7 m met nd), .slot (.val (.int 2)), .lst wanted (ρ11, μS a7 b7 m met nd), .lst ab (ρ12, μS a7 b7 m met nd), .bool false, .lst fl (ρ13, μS a7 b7 m met nd), .slot (.val (.list strung)), .lst bad (ρ14, μS a7 b7 m met nd), .bool false, .slot (.own (.list all)), .val (.int len), .slot (.own (.list all)), .slot (.val (.int len)), .bool false, .call (.val wk) (μS a7 b7 m met nd), .call (.val (.str tw)) (μS a7 b7 m met nd), .call (.val (.str tp)) (μS a7 b7 m met nd), .bool false, .call (.val (.str ahead)) (μS a7 b7 m met nd), .bool false, .call (.val wr) (μS a7 b7 m met nd1), .call (.val (.bool true)) (μS a7 b7 m met nd1)] (ah h0 h1 (show binop .Add (.int 1) (.int 1) = some (.val (.int 2)) from rfl) (show true = true from rfl) h4 h5 (show true = true from rfl) (show true = true from rfl) (ah h8 h9 (show true = true from rfl) h11 h12 h13 h14 h15 (ah h16 h17 h18 h19 h20 h21 h22 h23 (ah h24 h25 h26 h27 h28 h29 h30 (show prim 0 [.list [.str (so "p1"), .str (so "p2")]] = some (.val (.int 2)) from rfl) (ah h32 h33 h34 h35 h36 h37 h38 h39 (ah h40 h41 h42 h43 h44 h45 h46 h47 (ah h48 h49 h50 h51 h52 h53 h54 h55 (aq h56 h57 h58 h59 trivial)))))))) (by kernel_rfl)
theorem law_road_3 (h0 : callF W0 n 613 [scr, .int 0] [none, none, none, none, none] = some (.own (.list [.int a0, .int b0]), [none, none, none, none, none])) (h1 : callF W0 n 620 [.reg 0, .int 4] (muS a0 b0 0 [] none none) = some (.val (.int 2), muS a1 b1 0 [] none none)) (h4 : callF W0 n 634 [.reg 1, .str (so "p")] (muS a1 b1 0 [] none none) = some (.val (.str (so "p1")), muS a1 b1 1 [] none none)) (h5 : callF W0 n 634 [.reg 1, .str (so "p")] (muS a1 b1 1 [] none none) = some (.val (.str (so "p2")), muS a1 b1 2 [] none none)) (h6 : callF W0 n 634 [.reg 1, .str (so "p")] (muS a1 b1 2 [] none none) = some (.val (.str (so "p3")), muS a1 b1 3 [] none none)) (h9 : callF W0 n 627 [.reg 0, .list [.str (so "Two"), .str (so "One"), .str (so "Two"), .str (so "Left"), .str (so "New"), .str (so "None"), .none]] (muS a1 b1 3 [] none none) = some (.val v1, muS a2 b2 3 [] none none)) (h10 : callF W0 n 627 [.reg 0, .list [.str (so "Two"), .str (so "One"), .str (so "Two"), .str (so "Left"), .str (so "New"), .str (so "None"), .none]] (muS a2 b2 3 [] none none) = some (.val v2, muS a3 b3 3 [] none none)) (h11 : callF W0 n 627 [.reg 0, .list [.str (so "Two"), .str (so "One"), .str (so "Two"), .str (so "Left"), .str (so "New"), .str (so "None"), .none]] (muS a3 b3 3 [] none none) = some (.val v3, muS a4 b4 3 [] none none)) (h13 : prim 8 [.list [.tuple [.str (so "p1"), v1], .tuple [.str (so "p2"), v2], .tuple [.str (so "p3"), v3]]] = some (.own (.dictS [(so "p1", v1), (so "p2", v2), (so "p3", v3)]))) (h14 : callF W0 n 644 [.reg 0, .reg 1, .dictS [(so "p1", v1), (so "p2", v2), (so "p3", v3)], .int 3, .reg 2] (muS a4 b4 3 [] none none) = some (.val (.inst k9 fb), muS a6 b6 m met none none)) (h15 : callF W0 n 183 [.list [.str (so "p1"), .str (so "p2"), .str (so "p3")], .inst k9 fb] (muS a6 b6 m met none none) = some (.val (vLam [.str (so "p1"), .str (so "p2"), .str (so "p3")] (.inst k9 fb)), muS a6 b6 m met none none)) (h16 : callF W0 n 639 [] (muS a6 b6 m met none none) = some (.own (.dictS cs), muS a6 b6 m met none none)) (h17 : callF W0 n 513 [vLam [.str (so "p1"), .str (so "p2"), .str (so "p3")] (.inst k9 fb)] (muS a6 b6 m met none none) = some (.val (.str ahead), muS a6 b6 m met none none)) (h18 : Mini.fits (List.length (met : List V)) = true) (h19 : cEach (callF W0 n) 38 E5 met ([], [some (.list [.int a6, .int b6]), some (.dictS [(so "many", .int m)]), some (.fn 99), none, none]) = some (prs, (ρ5, [some (.list [.int a6, .int b6]), some (.dictS [(so "many", .int m)]), some (.fn 99), none, none]))) (h20 : Mini.fits (List.length (met : List V) + List.length (prs : List V)) = true) (h21 : prim 8 [.list prs] = some (.own (.dictS due))) (h22 : callF W0 n 399 [.inst k9 fb, .dictS cs] (muS a6 b6 m met none none) = some (.val (.dictS found), muS a6 b6 m met none none)) (h23 : cmpop .NotEq (.dictS found) (.dictS due) = some false) (h24 : Mini.fits (List.length ([.str (so "p1"), .str (so "p2"), .str (so "p3")] : List V)) = true) (h25 : cEach (callF W0 n) 39 E7 [.str (so "p1"), .str (so "p2"), .str (so "p3")] ([(so "source", .val (.reg 0))], muS a6 b6 m met none none) = some (flags, (ρ7, muS a7 b7 m met none none))) (h26 : Mini.fits (List.length ([.str (so "p1"), .str (so "p2"), .str (so "p3")] : List V) + List.length (flags : List V)) = true) (h27 : callF W0 n 602 [.list [.str (so "h"), .str (so "w")]] (muS a7 b7 m met none none) = some (.val (frI), μS a7 b7 m met [])) (h28 : callF W0 n 558 [.list flags, .dictS [], .bool false] (μS a7 b7 m met []) = some (.val sg, μS a7 b7 m met [])) (h29 : callF W0 n 404 [vLam [.str (so "p1"), .str (so "p2"), .str (so "p3")] (.inst k9 fb), sg, .dictS cs, frI] (μS a7 b7 m met []) = some (.val (.list splits), μS a7 b7 m met nd)) (h30 : Mini.fits (List.length (splits : List V)) = true) (h31 : cEach (callF W0 n) 39 E10 splits ([], μS a7 b7 m met nd) = some (rows, (ρ10, μS a7 b7 m met nd))) (h32 : Mini.fits (List.length (splits : List V) + List.length (rows : List V)) = true) (h34 : Mini.fits (List.length ([.int 0, .int 1, .int 2] : List V)) = true) (h35 : cEach (callF W0 n) 39 E11 [.int 0, .int 1, .int 2] ([(so "due", .val (.dictS due)), (so "flags", .val (.list flags)), (so "params", .val (.list [.str (so "p1"), .str (so "p2"), .str (so "p3")]))], μS a7 b7 m met nd) = some (wanted, (ρ11, μS a7 b7 m met nd))) (h36 : Mini.fits (List.length ([.int 0, .int 1, .int 2] : List V) + List.length (wanted : List V)) = true) (h37 : Mini.fits (List.length (rows : List V)) = true) (h38 : cEach (callF W0 n) 38 E12 rows ([], μS a7 b7 m met nd) = some (ab, (ρ12, μS a7 b7 m met nd))) (h39 : Mini.fits (List.length (rows : List V) + List.length (ab : List V)) = true) (h40 : cmpop .NotEq (.list ab) (.list wanted) = some false) (h41 : Mini.fits (List.length (rows : List V)) = true) (h42 : cEach (callF W0 n) 38 E13 rows ([], μS a7 b7 m met nd) = some (fl, (ρ13, μS a7 b7 m met nd))) (h43 : Mini.fits (List.length (rows : List V) + List.length (fl : List V)) = true) (h44 : prim 5 [.list fl, .list []] = some (.val (.list strung))) (h45 : Mini.fits (List.length (rows : List V)) = true) (h46 : cEach (callF W0 n) 37 E14 rows ([(so "cons", .val (.dictS cs))], μS a7 b7 m met nd) = some (bad, (ρ14, μS a7 b7 m met nd))) (h47 : Mini.fits (List.length (rows : List V) + List.length (bad : List V)) = true) (h48 : cmpop .NotEq (.list bad) (.list []) = some false) (h49 : binop .Add (.list strung) (.list [.str (so "p1"), .str (so "p2"), .str (so "p3")]) = some (.own (.list all))) (h50 : lenset all = some (.int len)) (h51 : binop .Add (.list strung) (.list [.str (so "p1"), .str (so "p2"), .str (so "p3")]) = some (.own (.list all))) (h52 : prim 0 [.list all] = some (.val (.int len))) (h53 : cmpop .NotEq (.int len) (.int len) = some false) (h54 : callF W0 n 409 [vLam [.str (so "p1"), .str (so "p2"), .str (so "p3")] (.inst k9 fb), .list splits] (μS a7 b7 m met nd) = some (.val wk, μS a7 b7 m met nd)) (h55 : callF W0 n 513 [wk] (μS a7 b7 m met nd) = some (.val (.str tw), μS a7 b7 m met nd)) (h56 : callF W0 n 649 [vLam [.str (so "p1"), .str (so "p2"), .str (so "p3")] (.inst k9 fb), .list rows] (μS a7 b7 m met nd) = some (.val (.str tp), μS a7 b7 m met nd)) (h57 : cmpop .NotEq (.str tw) (.str tp) = some false) (h58 : callF W0 n 513 [vLam [.str (so "p1"), .str (so "p2"), .str (so "p3")] (.inst k9 fb)] (μS a7 b7 m met nd) = some (.val (.str ahead), μS a7 b7 m met nd)) (h59 : cmpop .NotEq (.str ahead) (.str ahead) = some false) (h60 : callF W0 n 414 [vLam [.str (so "p1"), .str (so "p2"), .str (so "p3")] (.inst k9 fb), .list splits, .str (so "w"), frI] (μS a7 b7 m met nd) = some (.val wr, μS a7 b7 m met nd1)) (h61 : callF W0 n 654 [vLam [.str (so "p1"), .str (so "p2"), .str (so "p3")] (.inst k9 fb), .list rows, wr] (μS a7 b7 m met nd1) = some (.val (.bool true), μS a7 b7 m met nd1)) : callF W0 (n + 1) 659 [scr] [none, none, none, none, none] = some (.val (.bool true), μS a7 b7 m met nd1) :=
  call_play mdL [.call (.own (.list [.int a0, .int b0])) [none, none, none, none, none], .call (.val (.int 2)) (muS a1 b1 0 [] none none), .slot (.val (.int 3)), .call (.val (.str (so "p1"))) (muS a1 b1 1 [] none none), .call (.val (.str (so "p2"))) (muS a1 b1 2 [] none none), .call (.val (.str (so "p3"))) (muS a1 b1 3 [] none none), .call (.val v1) (muS a2 b2 3 [] none none), .call (.val v2) (muS a3 b3 3 [] none none), .call (.val v3) (muS a4 b4 3 [] none none), .slot (.own (.dictS [(so "p1", v1), (so "p2", v2), (so "p3", v3)])), .call (.val (.inst k9 fb)) (muS a6 b6 m met none none), .call (.val (vLam [.str (so "p1"), .str (so "p2"), .str (so "p3")] (.inst k9 fb))) (muS a6 b6 m met none none), .call (.own (.dictS cs)) (muS a6 b6 m met none none), .call (.val (.str ahead)) (muS a6 b6 m met none none), .lst prs (ρ5, [some (.list [.int a6, .int b6]), some (.dictS [(so "many", .int m)]), some (.fn 99), none, none]), .slot (.own (.dictS due)), .call (.val (.dictS found)) (muS a6 b6 m met none none), .bool false, .lst flags (ρ7, muS a7 b7 m met none none), .call (.val (frI)) (μS a7 b7 m met []), .call (.val sg) (μS a7 b7 m met []), .call (.val (.list splits)) (μS a7 b7 m met nd), .lst rows (ρ10, μS a7 b7 m met nd), .slot (.val (.int 3)), .lst wanted (ρ11, μS a7 b7 m met nd), .lst ab (ρ12, μS a7 b7 m met nd), .bool false, .lst fl (ρ13, μS a7 b7 m met nd), .slot (.val (.list strung)), .lst bad (ρ14, μS a7 b7 m met nd), .bool false, .slot (.own (.list all)), .val (.int len), .slot (.own (.list all)), .slot (.val (.int len)), .bool false, .call (.val wk) (μS a7 b7 m met nd), .call (.val (.str tw)) (μS a7 b7 m met nd), .call (.val (.str tp)) (μS a7 b7 m met nd), .bool false, .call (.val (.str ahead)) (μS a7 b7 m met nd), .bool false, .call (.val wr) (μS a7 b7 m met nd1), .call (.val (.bool true)) (μS a7 b7 m met nd1)] (ah h0 h1 (show binop .Add (.int 1) (.int 2) = some (.val (.int 3)) from rfl) (show true = true from rfl) h4 h5 h6 (show true = true from rfl) (ah (show true = true from rfl) h9 h10 h11 (show true = true from rfl) h13 h14 h15 (ah h16 h17 h18 h19 h20 h21 h22 h23 (ah h24 h25 h26 h27 h28 h29 h30 h31 (ah h32 (show prim 0 [.list [.str (so "p1"), .str (so "p2"), .str (so "p3")]] = some (.val (.int 3)) from rfl) h34 h35 h36 h37 h38 h39 (ah h40 h41 h42 h43 h44 h45 h46 h47 (ah h48 h49 h50 h51 h52 h53 h54 h55 (aq h56 h57 h58 h59 (ai h60 (ai h61 trivial)))))))))) (by kernel_rfl)
theorem law_road_4 (h0 : callF W0 n 613 [scr, .int 0] [none, none, none, none, none] = some (.own (.list [.int a0, .int b0]), [none, none, none, none, none])) (h1 : callF W0 n 620 [.reg 0, .int 4] (muS a0 b0 0 [] none none) = some (.val (.int 3), muS a1 b1 0 [] none none)) (h4 : callF W0 n 634 [.reg 1, .str (so "p")] (muS a1 b1 0 [] none none) = some (.val (.str (so "p1")), muS a1 b1 1 [] none none)) (h5 : callF W0 n 634 [.reg 1, .str (so "p")] (muS a1 b1 1 [] none none) = some (.val (.str (so "p2")), muS a1 b1 2 [] none none)) (h6 : callF W0 n 634 [.reg 1, .str (so "p")] (muS a1 b1 2 [] none none) = some (.val (.str (so "p3")), muS a1 b1 3 [] none none)) (h7 : callF W0 n 634 [.reg 1, .str (so "p")] (muS a1 b1 3 [] none none) = some (.val (.str (so "p4")), muS a1 b1 4 [] none none)) (h10 : callF W0 n 627 [.reg 0, .list [.str (so "Two"), .str (so "One"), .str (so "Two"), .str (so "Left"), .str (so "New"), .str (so "None"), .none]] (muS a1 b1 4 [] none none) = some (.val v1, muS a2 b2 4 [] none none)) (h11 : callF W0 n 627 [.reg 0, .list [.str (so "Two"), .str (so "One"), .str (so "Two"), .str (so "Left"), .str (so "New"), .str (so "None"), .none]] (muS a2 b2 4 [] none none) = some (.val v2, muS a3 b3 4 [] none none)) (h12 : callF W0 n 627 [.reg 0, .list [.str (so "Two"), .str (so "One"), .str (so "Two"), .str (so "Left"), .str (so "New"), .str (so "None"), .none]] (muS a3 b3 4 [] none none) = some (.val v3, muS a4 b4 4 [] none none)) (h13 : callF W0 n 627 [.reg 0, .list [.str (so "Two"), .str (so "One"), .str (so "Two"), .str (so "Left"), .str (so "New"), .str (so "None"), .none]] (muS a4 b4 4 [] none none) = some (.val v4, muS a5 b5 4 [] none none)) (h15 : prim 8 [.list [.tuple [.str (so "p1"), v1], .tuple [.str (so "p2"), v2], .tuple [.str (so "p3"), v3], .tuple [.str (so "p4"), v4]]] = some (.own (.dictS [(so "p1", v1), (so "p2", v2), (so "p3", v3), (so "p4", v4)]))) (h16 : callF W0 n 644 [.reg 0, .reg 1, .dictS [(so "p1", v1), (so "p2", v2), (so "p3", v3), (so "p4", v4)], .int 3, .reg 2] (muS a5 b5 4 [] none none) = some (.val (.inst k9 fb), muS a6 b6 m met none none)) (h17 : callF W0 n 183 [.list [.str (so "p1"), .str (so "p2"), .str (so "p3"), .str (so "p4")], .inst k9 fb] (muS a6 b6 m met none none) = some (.val (vLam [.str (so "p1"), .str (so "p2"), .str (so "p3"), .str (so "p4")] (.inst k9 fb)), muS a6 b6 m met none none)) (h18 : callF W0 n 639 [] (muS a6 b6 m met none none) = some (.own (.dictS cs), muS a6 b6 m met none none)) (h19 : callF W0 n 513 [vLam [.str (so "p1"), .str (so "p2"), .str (so "p3"), .str (so "p4")] (.inst k9 fb)] (muS a6 b6 m met none none) = some (.val (.str ahead), muS a6 b6 m met none none)) (h20 : Mini.fits (List.length (met : List V)) = true) (h21 : cEach (callF W0 n) 38 E5 met ([], [some (.list [.int a6, .int b6]), some (.dictS [(so "many", .int m)]), some (.fn 99), none, none]) = some (prs, (ρ5, [some (.list [.int a6, .int b6]), some (.dictS [(so "many", .int m)]), some (.fn 99), none, none]))) (h22 : Mini.fits (List.length (met : List V) + List.length (prs : List V)) = true) (h23 : prim 8 [.list prs] = some (.own (.dictS due))) (h24 : callF W0 n 399 [.inst k9 fb, .dictS cs] (muS a6 b6 m met none none) = some (.val (.dictS found), muS a6 b6 m met none none)) (h25 : cmpop .NotEq (.dictS found) (.dictS due) = some false) (h26 : Mini.fits (List.length ([.str (so "p1"), .str (so "p2"), .str (so "p3"), .str (so "p4")] : List V)) = true) (h27 : cEach (callF W0 n) 39 E7 [.str (so "p1"), .str (so "p2"), .str (so "p3"), .str (so "p4")] ([(so "source", .val (.reg 0))], muS a6 b6 m met none none) = some (flags, (ρ7, muS a7 b7 m met none none))) (h28 : Mini.fits (List.length ([.str (so "p1"), .str (so "p2"), .str (so "p3"), .str (so "p4")] : List V) + List.length (flags : List V)) = true) (h29 : callF W0 n 602 [.list [.str (so "h"), .str (so "w")]] (muS a7 b7 m met none none) = some (.val (frI), μS a7 b7 m met [])) (h30 : callF W0 n 558 [.list flags, .dictS [], .bool false] (μS a7 b7 m met []) = some (.val sg, μS a7 b7 m met [])) (h31 : callF W0 n 404 [vLam [.str (so "p1"), .str (so "p2"), .str (so "p3"), .str (so "p4")] (.inst k9 fb), sg, .dictS cs, frI] (μS a7 b7 m met []) = some (.val (.list splits), μS a7 b7 m met nd)) (h32 : Mini.fits (List.length (splits : List V)) = true) (h33 : cEach (callF W0 n) 39 E10 splits ([], μS a7 b7 m met nd) = some (rows, (ρ10, μS a7 b7 m met nd))) (h34 : Mini.fits (List.length (splits : List V) + List.length (rows : List V)) = true) (h36 : Mini.fits (List.length ([.int 0, .int 1, .int 2, .int 3] : List V)) = true) (h37 : cEach (callF W0 n) 39 E11 [.int 0, .int 1, .int 2, .int 3] ([(so "due", .val (.dictS due)), (so "flags", .val (.list flags)), (so "params", .val (.list [.str (so "p1"), .str (so "p2"), .str (so "p3"), .str (so "p4")]))], μS a7 b7 m met nd) = some (wanted, (ρ11, μS a7 b7 m met nd))) (h38 : Mini.fits (List.length ([.int 0, .int 1, .int 2, .int 3] : List V) + List.length (wanted : List V)) = true) (h39 : Mini.fits (List.length (rows : List V)) = true) (h40 : cEach (callF W0 n) 38 E12 rows ([], μS a7 b7 m met nd) = some (ab, (ρ12, μS a7 b7 m met nd))) (h41 : Mini.fits (List.length (rows : List V) + List.length (ab : List V)) = true) (h42 : cmpop .NotEq (.list ab) (.list wanted) = some false) (h43 : Mini.fits (List.length (rows : List V)) = true) (h44 : cEach (callF W0 n) 38 E13 rows ([], μS a7 b7 m met nd) = some (fl, (ρ13, μS a7 b7 m met nd))) (h45 : Mini.fits (List.length (rows : List V) + List.length (fl : List V)) = true) (h46 : prim 5 [.list fl, .list []] = some (.val (.list strung))) (h47 : Mini.fits (List.length (rows : List V)) = true) (h48 : cEach (callF W0 n) 37 E14 rows ([(so "cons", .val (.dictS cs))], μS a7 b7 m met nd) = some (bad, (ρ14, μS a7 b7 m met nd))) (h49 : Mini.fits (List.length (rows : List V) + List.length (bad : List V)) = true) (h50 : cmpop .NotEq (.list bad) (.list []) = some false) (h51 : binop .Add (.list strung) (.list [.str (so "p1"), .str (so "p2"), .str (so "p3"), .str (so "p4")]) = some (.own (.list all))) (h52 : lenset all = some (.int len)) (h53 : binop .Add (.list strung) (.list [.str (so "p1"), .str (so "p2"), .str (so "p3"), .str (so "p4")]) = some (.own (.list all))) (h54 : prim 0 [.list all] = some (.val (.int len))) (h55 : cmpop .NotEq (.int len) (.int len) = some false) (h56 : callF W0 n 409 [vLam [.str (so "p1"), .str (so "p2"), .str (so "p3"), .str (so "p4")] (.inst k9 fb), .list splits] (μS a7 b7 m met nd) = some (.val wk, μS a7 b7 m met nd)) (h57 : callF W0 n 513 [wk] (μS a7 b7 m met nd) = some (.val (.str tw), μS a7 b7 m met nd)) (h58 : callF W0 n 649 [vLam [.str (so "p1"), .str (so "p2"), .str (so "p3"), .str (so "p4")] (.inst k9 fb), .list rows] (μS a7 b7 m met nd) = some (.val (.str tp), μS a7 b7 m met nd)) (h59 : cmpop .NotEq (.str tw) (.str tp) = some false) (h60 : callF W0 n 513 [vLam [.str (so "p1"), .str (so "p2"), .str (so "p3"), .str (so "p4")] (.inst k9 fb)] (μS a7 b7 m met nd) = some (.val (.str ahead), μS a7 b7 m met nd)) (h61 : cmpop .NotEq (.str ahead) (.str ahead) = some false) (h62 : callF W0 n 414 [vLam [.str (so "p1"), .str (so "p2"), .str (so "p3"), .str (so "p4")] (.inst k9 fb), .list splits, .str (so "w"), frI] (μS a7 b7 m met nd) = some (.val wr, μS a7 b7 m met nd1)) (h63 : callF W0 n 654 [vLam [.str (so "p1"), .str (so "p2"), .str (so "p3"), .str (so "p4")] (.inst k9 fb), .list rows, wr] (μS a7 b7 m met nd1) = some (.val (.bool true), μS a7 b7 m met nd1)) : callF W0 (n + 1) 659 [scr] [none, none, none, none, none] = some (.val (.bool true), μS a7 b7 m met nd1) :=
  call_play mdL [.call (.own (.list [.int a0, .int b0])) [none, none, none, none, none], .call (.val (.int 3)) (muS a1 b1 0 [] none none), .slot (.val (.int 4)), .call (.val (.str (so "p1"))) (muS a1 b1 1 [] none none), .call (.val (.str (so "p2"))) (muS a1 b1 2 [] none none), .call (.val (.str (so "p3"))) (muS a1 b1 3 [] none none), .call (.val (.str (so "p4"))) (muS a1 b1 4 [] none none), .call (.val v1) (muS a2 b2 4 [] none none), .call (.val v2) (muS a3 b3 4 [] none none), .call (.val v3) (muS a4 b4 4 [] none none), .call (.val v4) (muS a5 b5 4 [] none none), .slot (.own (.dictS [(so "p1", v1), (so "p2", v2), (so "p3", v3), (so "p4", v4)])), .call (.val (.inst k9 fb)) (muS a6 b6 m met none none), .call (.val (vLam [.str (so "p1"), .str (so "p2"), .str (so "p3"), .str (so "p4")] (.inst k9 fb))) (muS a6 b6 m met none none), .call (.own (.dictS cs)) (muS a6 b6 m met none none), .call (.val (.str ahead)) (muS a6 b6 m met none none), .lst prs (ρ5, [some (.list [.int a6, .int b6]), some (.dictS [(so "many", .int m)]), some (.fn 99), none, none]), .slot (.own (.dictS due)), .call (.val (.dictS found)) (muS a6 b6 m met none none), .bool false, .lst flags (ρ7, muS a7 b7 m met none none), .call (.val (frI)) (μS a7 b7 m met []), .call (.val sg) (μS a7 b7 m met []), .call (.val (.list splits)) (μS a7 b7 m met nd), .lst rows (ρ10, μS a7 b7 m met nd), .slot (.val (.int 4)), .lst wanted (ρ11, μS a7 b7 m met nd), .lst ab (ρ12, μS a7 b7 m met nd), .bool false, .lst fl (ρ13, μS a7 b7 m met nd), .slot (.val (.list strung)), .lst bad (ρ14, μS a7 b7 m met nd), .bool false, .slot (.own (.list all)), .val (.int len), .slot (.own (.list all)), .slot (.val (.int len)), .bool false, .call (.val wk) (μS a7 b7 m met nd), .call (.val (.str tw)) (μS a7 b7 m met nd), .call (.val (.str tp)) (μS a7 b7 m met nd), .bool false, .call (.val (.str ahead)) (μS a7 b7 m met nd), .bool false, .call (.val wr) (μS a7 b7 m met nd1), .call (.val (.bool true)) (μS a7 b7 m met nd1)] (ah h0 h1 (show binop .Add (.int 1) (.int 3) = some (.val (.int 4)) from rfl) (show true = true from rfl) h4 h5 h6 h7 (ah (show true = true from rfl) (show true = true from rfl) h10 h11 h12 h13 (show true = true from rfl) h15 (ah h16 h17 h18 h19 h20 h21 h22 h23 (ah h24 h25 h26 h27 h28 h29 h30 h31 (ah h32 h33 h34 (show prim 0 [.list [.str (so "p1"), .str (so "p2"), .str (so "p3"), .str (so "p4")]] = some (.val (.int 4)) from rfl) h36 h37 h38 h39 (ah h40 h41 h42 h43 h44 h45 h46 h47 (ah h48 h49 h50 h51 h52 h53 h54 h55 (ah h56 h57 h58 h59 h60 h61 h62 h63 trivial)))))))) (by kernel_rfl)
end
end Mini
namespace Mini
noncomputable def P.playI (C : CallT) (ask : Addr → Bool) (md : P.Md) {R : Type} (t : P.Ans R) (as : List P.An) : Prop × Option R := P.play C { md with call := ask } t as P.fin
theorem playI_call (md : P.Md) {n : Nat} {a : Addr} {vs : List V} {μ : Mu} {r : Slot × Mu} (ask : Addr → Bool) (as : List P.An) {Ob : Prop} (h : Ob) (e : P.playI (callF W0 n) ask md (callT W0 a vs μ) as = (Ob, some r)) : callF W0 (n + 1) a vs μ = some r := P.play_eq as h e
end Mini
namespace Mini
noncomputable def pNm : List Str := [so "p1", so "p2", so "p3", so "p4"]
noncomputable def fNm : List (List Str) := [[so "p1.1", so "p1.2"], [so "p2.1", so "p2.2"], [so "p3.1", so "p3.2"], [so "p4.1", so "p4.2"]]
noncomputable def fldS (i c : Nat) : List Str := (nthD [] fNm i).take (c - 1)
noncomputable def fldV (i c : Nat) : V := .list ((fldS i c).map .str)
noncomputable def conS : Nat → Str
  | 2 => so "One"
  | _ => so "Two"
noncomputable def rowsG (f : Nat → Nat → List V) : Nat → List Nat → List V
  | _, [] => []
  | i, c :: r => (match Nat.ble 2 c with | true => f i c | false => []) ++ rowsG f (i + 1) r
noncomputable def splitsV (c : List Nat) : List V := rowsG (fun i c => [.inst 383 [(so "place", .int i), (so "con", .str (conS c)), (so "fields", fldV i c)]]) 0 c
noncomputable def rowsV (c : List Nat) : List V := rowsG (fun i c => [.tuple [.int i, .str (conS c), fldV i c]]) 0 c
noncomputable def wantV (c : List Nat) : List V := rowsG (fun i c => [.tuple [.int i, .str (conS c)]]) 0 c
noncomputable def fldsV (c : List Nat) : List V := rowsG (fun i c => [fldV i c]) 0 c
noncomputable def flagsV (c : List Nat) : List V := c.map fun c => .bool (Nat.ble 1 c)
noncomputable def psV (c : List Nat) : List V := (pNm.take c.length).map .str
noncomputable def numD : Nat → List Nat → List (Str × V)
  | _, [] => []
  | i, c :: r => (match Nat.ble 2 c with | true => [(nthD (so "") pNm i, .int (c - 1 : Nat))] | false => []) ++ numD (i + 1) r
noncomputable def allC : Nat → List (List Nat)
  | 0 => [[]]
  | k + 1 => (allC k).flatMap fun c => [0 :: c, 1 :: c, 2 :: c, 3 :: c]
noncomputable def fnV (c : List Nat) (b : V) : V := .inst 183 [(so "params", .list (psV c)), (so "body", b)]
noncomputable def sgV (c : List Nat) : V := .inst 558 [(so "flags", .list (flagsV c)), (so "free", .dictS []), (so "diverges", .bool false)]
end Mini
namespace Mini
open P.An
noncomputable def gNm : List (List Str) := [[so "p1.1", so "p1.2", so "p1.3", so "p1.4", so "p1.5", so "p1.6"], [so "p2.1", so "p2.2", so "p2.3", so "p2.4", so "p2.5", so "p2.6"], [so "p3.1", so "p3.2", so "p3.3", so "p3.4", so "p3.5", so "p3.6"], [so "p4.1", so "p4.2", so "p4.3", so "p4.4", so "p4.5", so "p4.6"]]
noncomputable def gN (i j : Nat) : Str := nthD (so "") (nthD [] gNm i) (j - 1)
noncomputable def pN (i : Nat) : Str := nthD (so "") pNm i
noncomputable def bN (i j : Nat) : Str := match j with
  | 0 => pN i
  | _ => gN i j
noncomputable def mdN : P.Md := { md0 with own := true, put := true }
noncomputable def tripN : List (Nat × Nat × Nat) := [0, 1, 2, 3].flatMap fun i => [0, 1, 2, 3].flatMap fun j => [0, 1, 2, 3, 4, 5].map fun v => (i, j, v)
section
variable {n : Nat} {a b m : Int} {met : List V} {nd nd' : List (Str × V)}
theorem next_all : tripN.map (fun t => P.playI (callF W0 (n + 3)) (fun _ => false) mdN (callT W0 599 [frI, .str (bN t.1 t.2.1)] (μS a b m met nd)) [pair (.dictS nd) (.int t.2.2), val (.dictS nd')]) = tripN.map (fun t => ((ownDo .get (.dictS nd) [.str (pN t.1), .int 0] = some (.dictS nd, .int t.2.2)) ∧ (putItem (.dictS nd) (.str (pN t.1)) (.int ((t.2.2 + 1 : Nat) : Int)) = some (.dictS nd')) ∧ True, some (.val (.str (gN t.1 (t.2.2 + 1))), μS a b m met nd'))) := by kernel_rfl
noncomputable def has (i v : Nat) (nd : List (Str × V)) : Bool := match look (pN i) nd with
  | none => Nat.beq v 0
  | some (.int x) => match x with
    | .ofNat y => Nat.beq y v && Nat.ble 1 y
    | _ => false
  | _ => false
noncomputable def nxt (i v : Nat) (nd : List (Str × V)) : List (Str × V) := put (pN i) (.int ((v + 1 : Nat) : Int)) nd
theorem nd_get {i v : Nat} (h : has i v nd = true) : ownDo .get (.dictS nd) [.str (pN i), .int 0] = some (.dictS nd, .int v) := by
  show some (V.dictS nd, (look (pN i) nd).getD (.int 0)) = _
  unfold has at h
  revert h
  cases look (pN i) nd with
  | none => intro h; have := Nat.eq_of_beq_eq_true h; subst this; rfl
  | some w =>
    cases w with
    | int x =>
      cases x with
      | ofNat y => intro h; dsimp only at h; simp only [Bool.and_eq_true] at h; have := Nat.eq_of_beq_eq_true h.1; subst this; rfl
      | negSucc _ => intro h; simp at h
    | _ => intro h; simp at h
theorem putN_ok {i v : Nat} (hf : Mini.fits nd.length = true) : putItem (.dictS nd) (.str (pN i)) (.int ((v + 1 : Nat) : Int)) = some (.dictS (nxt i v nd)) := by
  exact gdo_t hf
theorem next_spec {i j v : Nat} (ht : (i, j, v) ∈ tripN) (h : has i v nd = true) (hf : Mini.fits nd.length = true) : callF W0 (n + 4) 599 [frI, .str (bN i j)] (μS a b m met nd) = some (.val (.str (gN i (v + 1))), μS a b m met (nxt i v nd)) :=
  playI_call mdN (fun _ => false) [pair (.dictS nd) (.int v), val (.dictS (nxt i v nd))] (And.intro (nd_get h) (And.intro (putN_ok hf) trivial)) (List.map_inj_left.mp (next_all (n := n) (a := a) (b := b) (m := m) (met := met) (nd := nd) (nd' := nxt i v nd)) (i, j, v) ht)
end
end Mini
namespace Mini
open P.An
noncomputable def md4 : P.Md := { md0 with cmp := fun op => (match op with | .In => true | _ => false), get := true }
noncomputable def pS1 (i : Nat) : V := .str (pN i)
noncomputable def infoV (c : Nat) : V := match look (conS c) consL with | some v => v | none => .none
noncomputable def ansN (ν : List (Str × V) → Mu) : List (Str × V) → List (Nat × Nat × Nat) → List P.An → List P.An
  | _, [], k => k
  | nd, (i, j, v) :: r, k => call (.val (.str (gN i (v + 1)))) (ν (nxt i v nd)) :: ansN ν (nxt i v nd) r k
noncomputable def obN (C : CallT) (ν : List (Str × V) → Mu) : List (Str × V) → List (Nat × Nat × Nat) → Prop → Prop
  | _, [], k => k
  | nd, (i, j, v) :: r, k => C 599 [frI, .str (bN i j)] (ν nd) = some (.val (.str (gN i (v + 1))), ν (nxt i v nd)) ∧ obN C ν (nxt i v nd) r k
noncomputable def finN : List (Str × V) → List (Nat × Nat × Nat) → List (Str × V)
  | nd, [] => nd
  | nd, (i, j, v) :: r => finN (nxt i v nd) r
noncomputable def stp4 (i : Nat) : Nat → List (Nat × Nat × Nat)
  | 2 => [(i, 0, 0)]
  | _ => [(i, 0, 0), (i, 0, 1)]
noncomputable def ans4 (F : V) (ν : List (Str × V) → Mu) : List (Str × V) → Nat → List Nat → List P.An
  | _, _, [] => []
  | nd, i, c :: r => val (pS1 i) :: val (.bool (Nat.ble 1 c)) :: (match Nat.ble 1 c with
    | false => ans4 F ν nd (i + 1) r
    | true => bool (Nat.ble 2 c) :: (match Nat.ble 2 c with
      | false => ans4 F ν nd (i + 1) r
      | true => val (.str (conS c)) :: val (infoV c) :: ansN ν nd (stp4 i c) (val (.str (conS c)) :: ans4 F ν (finN nd (stp4 i c)) (i + 1) r)))
noncomputable def ob4 (C : CallT) (ps fl : List V) (F : V) (ν : List (Str × V) → Mu) : List (Str × V) → Nat → List Nat → Prop
  | _, _, [] => True
  | nd, i, c :: r => getItemM (.list ps) (.int i) = some (pS1 i) ∧ getItemM (.list fl) (.int i) = some (.bool (Nat.ble 1 c)) ∧ (match Nat.ble 1 c with
    | false => ob4 C ps fl F ν nd (i + 1) r
    | true => cmpop .In (pS1 i) F = some (Nat.ble 2 c) ∧ (match Nat.ble 2 c with
      | false => ob4 C ps fl F ν nd (i + 1) r
      | true => getItemM F (pS1 i) = some (.str (conS c)) ∧ getItemM (.dictS consL) (.str (conS c)) = some (infoV c) ∧ obN C ν nd (stp4 i c) (getItemM F (pS1 i) = some (.str (conS c)) ∧ ob4 C ps fl F ν (finN nd (stp4 i c)) (i + 1) r)))
noncomputable def fin4 : List (Str × V) → Nat → List Nat → List (Str × V)
  | nd, _, [] => nd
  | nd, i, c :: r => match Nat.ble 2 c with
    | false => fin4 nd (i + 1) r
    | true => fin4 (finN nd (stp4 i c)) (i + 1) r
section
variable {n : Nat} {a b m : Int} {met : List V} {found fb : List (Str × V)} {kb : Addr}
noncomputable def is4 (a : Addr) : Bool := Nat.beq a 399 || Nat.beq a 599
noncomputable def lhs4 (C : CallT) (B : V) (F : V) (ν : List (Str × V) → Mu) (c : List Nat) : Prop × Option (Slot × Mu) :=
  P.playI C is4 md4 (callT W0 404 [fnV c B, sgV c, .dictS consL, frI] (ν [])) (call (.val F) (ν []) :: ans4 F ν [] 0 c)
noncomputable def rhs4 (C : CallT) (B : V) (F : V) (ν : List (Str × V) → Mu) (c : List Nat) : Prop × Option (Slot × Mu) :=
  ((C 399 [B, .dictS consL] (ν []) = some (.val F, ν [])) ∧ ob4 C (psV c) (flagsV c) F ν [] 0 c, some (.val (.list (splitsV c)), ν (fin4 [] 0 c)))
theorem k4_1 : (allC 1).map (lhs4 (callF W0 (n + 6)) (.inst kb fb) (.dictS found) (μS a b m met)) = (allC 1).map (rhs4 (callF W0 (n + 6)) (.inst kb fb) (.dictS found) (μS a b m met)) := by kernel_rfl
theorem k4_2 : (allC 2).map (lhs4 (callF W0 (n + 6)) (.inst kb fb) (.dictS found) (μS a b m met)) = (allC 2).map (rhs4 (callF W0 (n + 6)) (.inst kb fb) (.dictS found) (μS a b m met)) := by kernel_rfl
theorem k4_3 : (allC 3).map (lhs4 (callF W0 (n + 6)) (.inst kb fb) (.dictS found) (μS a b m met)) = (allC 3).map (rhs4 (callF W0 (n + 6)) (.inst kb fb) (.dictS found) (μS a b m met)) := by kernel_rfl
end
end Mini
namespace Mini
open P.An
noncomputable def allD : Nat → List (List Nat)
  | 0 => [[]]
  | k + 1 => (allD k).flatMap fun c => [1 :: c, 2 :: c, 3 :: c]
noncomputable def allE : List (List Nat) := allD 1 ++ (allD 2 ++ (allD 3 ++ allD 4))
theorem of_map {α β : Type _} {l : List α} {f g : α → β} (h : l.map f = l.map g) {x : α} (hx : x ∈ l) : f x = g x := List.map_inj_left.mp h x hx
noncomputable def strV (c : List Nat) : List V := rowsG (fun i c => (fldS i c).map .str) 0 c
noncomputable def outL (o : Option (List V × St)) : Option (List V × Mu) := match o with
  | some p => some (p.1, p.2.2)
  | none => none
theorem outL_eq {o : Option (List V × St)} {xs : List V} {μ : Mu} (h : outL o = some (xs, μ)) : ∃ ρ, o = some (xs, (ρ, μ)) := by
  cases o with
  | none => simp [outL] at h
  | some p =>
    obtain ⟨ys, ρ, μ'⟩ := p
    simp only [outL, Option.some.injEq, Prod.mk.injEq] at h
    exact ⟨ρ, by rw [← h.1, ← h.2]⟩
section
variable {n : Nat} {μ : Mu}
theorem e10_E : allE.map (fun c => outL (cEach (callF W0 n) 39 E10 (splitsV c) ([], μ))) = allE.map (fun c => some (rowsV c, μ)) := by kernel_rfl
theorem e12_E : allE.map (fun c => outL (cEach (callF W0 n) 38 E12 (rowsV c) ([], μ))) = allE.map (fun c => some (wantV c, μ)) := by kernel_rfl
theorem e13_E : allE.map (fun c => outL (cEach (callF W0 n) 38 E13 (rowsV c) ([], μ))) = allE.map (fun c => some (fldsV c, μ)) := by kernel_rfl
theorem e14_E : allE.map (fun c => outL (cEach (callF W0 n) 37 E14 (rowsV c) ([(so "cons", .val (.dictS consL))], μ))) = allE.map (fun c => some ([], μ)) := by kernel_rfl
theorem sm_E : allE.map (fun c => prim 5 [.list (fldsV c), .list []]) = allE.map (fun c => some (.val (.list (strV c)))) := by kernel_rfl
theorem ad_E : allE.map (fun c => binop .Add (.list (strV c)) (.list (psV c))) = allE.map (fun c => some (.own (.list (strV c ++ psV c)))) := by kernel_rfl
theorem ls_E : allE.map (fun c => lenset (strV c ++ psV c)) = allE.map (fun c => some (.int (strV c ++ psV c).length)) := by kernel_rfl
theorem ln_E : allE.map (fun c => prim 0 [.list (strV c ++ psV c)]) = allE.map (fun c => some (.val (.int (strV c ++ psV c).length))) := by kernel_rfl
theorem cm_E : allE.map (fun c => cmpop .NotEq (.list (wantV c)) (.list (wantV c))) = allE.map (fun c => some false) := by kernel_rfl
end
end Mini
namespace Mini
open P.An
noncomputable def sndL (p : Prop × Option (List V × St)) : Prop × Option (List V × Mu) := (p.1, outL p.2)
theorem each_play {C : CallT} {md : P.Md} {d : Nat} {e : Expr} {xs ys : List V} {σ : St} {μ : Mu} (as : List P.An) {Ob : Prop} (h : Ob) (q : sndL (P.play C md (tEach d e xs σ) as P.fin) = (Ob, some (ys, μ))) : ∃ ρ, cEach C d e xs σ = some (ys, (ρ, μ)) := by
  have q1 : (P.play C md (tEach d e xs σ) as P.fin).1 = Ob := congrArg (fun p : Prop × Option (List V × Mu) => p.1) q
  have q2 : outL (P.play C md (tEach d e xs σ) as P.fin).2 = some (ys, μ) := congrArg (fun p : Prop × Option (List V × Mu) => p.2) q
  obtain ⟨ρ, hρ⟩ := outL_eq q2
  exact ⟨ρ, P.play_eq as h (Prod.ext q1 hρ)⟩
noncomputable def intsV : Nat → Nat → List V
  | _, 0 => []
  | i, k + 1 => .int i :: intsV (i + 1) k
noncomputable def ans11 : Nat → List Nat → List P.An
  | _, [] => []
  | i, c :: r => val (.bool (Nat.ble 1 c)) :: (match Nat.ble 1 c with
    | false => ans11 (i + 1) r
    | true => val (pS1 i) :: bool (Nat.ble 2 c) :: (match Nat.ble 2 c with
      | false => ans11 (i + 1) r
      | true => val (pS1 i) :: val (.str (conS c)) :: ans11 (i + 1) r))
noncomputable def ob11 (ps fl : List V) (F : V) : Nat → List Nat → Prop
  | _, [] => True
  | i, c :: r => getItemM (.list fl) (.int i) = some (.bool (Nat.ble 1 c)) ∧ (match Nat.ble 1 c with
    | false => ob11 ps fl F (i + 1) r
    | true => getItemM (.list ps) (.int i) = some (pS1 i) ∧ cmpop .In (pS1 i) F = some (Nat.ble 2 c) ∧ (match Nat.ble 2 c with
      | false => ob11 ps fl F (i + 1) r
      | true => getItemM (.list ps) (.int i) = some (pS1 i) ∧ getItemM F (pS1 i) = some (.str (conS c)) ∧ ob11 ps fl F (i + 1) r))
section
variable {n : Nat} {μ : Mu} {due : List (Str × V)}
noncomputable def lhs11 (C : CallT) (F : V) (μ : Mu) (c : List Nat) : Prop × Option (List V × Mu) :=
  sndL (P.play C md4 (tEach 39 E11 (intsV 0 c.length) ([(so "due", .val F), (so "flags", .val (.list (flagsV c))), (so "params", .val (.list (psV c)))], μ)) (ans11 0 c) P.fin)
noncomputable def rhs11 (F : V) (μ : Mu) (c : List Nat) : Prop × Option (List V × Mu) := (ob11 (psV c) (flagsV c) F 0 c, some (wantV c, μ))
noncomputable def allF : List (List Nat) := allC 1 ++ (allC 2 ++ (allC 3 ++ allC 4))
theorem e11_F : allF.map (lhs11 (callF W0 n) (.dictS due) μ) = allF.map (rhs11 (.dictS due) μ) := by kernel_rfl
end
end Mini
namespace Mini
open P.An
noncomputable def wps : Nat → List Nat → List V
  | _, [] => []
  | i, c :: r => (match Nat.ble 2 c with | true => (fldS i c).map .str | false => [pS1 i]) ++ wps (i + 1) r
noncomputable def vConN (x : Str) (xs : List Str) : V := vCon x (xs.map fun y => vVar (.str y))
noncomputable def wbody (B : V) : Nat → List Nat → V
  | _, [] => B
  | i, c :: r => match Nat.ble 2 c with
    | true => vLet (nthD (so "") pNm i) (vConN (conS c) (fldS i c)) (wbody B (i + 1) r) false
    | false => wbody B (i + 1) r
noncomputable def wkV (B : V) (c : List Nat) : V := vLam (wps 0 c) (wbody B 0 c)
noncomputable def wFs (i c : Nat) : List Str := match c with
  | 2 => [gN i 3]
  | _ => [gN i 4, gN i 5]
noncomputable def wrArgs : Nat → List Nat → List V
  | _, [] => []
  | i, c :: r => (match Nat.ble 2 c with | true => (wFs i c).map fun x => vVar (.str x) | false => [vVar (.str (gN i 1))]) ++ wrArgs (i + 1) r
noncomputable def wrNames : Nat → List Nat → List V
  | _, [] => []
  | i, c :: r => .str (gN i c) :: wrNames (i + 1) r
noncomputable def wrBody (B : V) : Nat → List Nat → V
  | _, [] => B
  | i, c :: r => match Nat.ble 2 c with
    | true => vCase (vVar (.str (gN i c))) (gN i (2 * c)) [vAlt (conS c) ((wFs i c).map .str) (wrBody B (i + 1) r)] .none
    | false => wrBody B (i + 1) r
noncomputable def wrV (c : List Nat) : V := vLam (wrNames 0 c) (wrBody (vApp (vVar (.str (so "w"))) (wrArgs 0 c)) 0 c)
noncomputable def outS (o : Option (Slot × Mu)) : Option Slot := match o with
  | some p => some p.1
  | none => none
noncomputable def wst1 : Nat → List Nat → List (Nat × Nat × Nat)
  | _, [] => []
  | i, c :: r => (i, 0, c - 1) :: wst1 (i + 1) r
noncomputable def wst2 : Nat → List Nat → List (Nat × Nat × Nat)
  | _, [] => []
  | i, c :: r => (match c with | 2 => [(i, 1, 2)] | 3 => [(i, 1, 3), (i, 2, 4)] | _ => []) ++ wst2 (i + 1) r
noncomputable def wst3 : Nat → List Nat → List (Nat × Nat × Nat)
  | _, [] => []
  | i, c :: r => wst3 (i + 1) r ++ (match c with | 2 => [(i, 2, 3)] | 3 => [(i, 3, 5)] | _ => [])
noncomputable def wst (c : List Nat) : List (Nat × Nat × Nat) := wst1 0 c ++ (wst2 0 c ++ wst3 0 c)
noncomputable def is513 (a : Addr) : Bool := Nat.beq a 513
noncomputable def is599 (a : Addr) : Bool := Nat.beq a 599
section
variable {n : Nat} {μ : Mu} {kb : Addr} {fb : List (Str × V)} {t : Str} {a b m : Int} {met : List V}
noncomputable def lhsW (C : CallT) (B : V) (ν : List (Str × V) → Mu) (c : List Nat) : Prop × Option (Slot × Mu) :=
  P.playI C is599 md0 (callT W0 414 [fnV c B, .list (splitsV c), .str (so "w"), frI] (ν (fin4 [] 0 c))) (ansN ν (fin4 [] 0 c) (wst c) [])
noncomputable def rhsW (C : CallT) (B : V) (ν : List (Str × V) → Mu) (c : List Nat) : Prop × Option (Slot × Mu) :=
  (obN C ν (fin4 [] 0 c) (wst c) True, some (.val (wrV c), ν (finN (fin4 [] 0 c) (wst c))))
theorem wr_1 : (allD 1).map (lhsW (callF W0 (n + 6)) (.inst kb fb) (μS a b m met)) = (allD 1).map (rhsW (callF W0 (n + 6)) (.inst kb fb) (μS a b m met)) := by kernel_rfl
theorem wr_2 : (allD 2).map (lhsW (callF W0 (n + 6)) (.inst kb fb) (μS a b m met)) = (allD 2).map (rhsW (callF W0 (n + 6)) (.inst kb fb) (μS a b m met)) := by kernel_rfl
theorem wr_3 : (allD 3).map (lhsW (callF W0 (n + 6)) (.inst kb fb) (μS a b m met)) = (allD 3).map (rhsW (callF W0 (n + 6)) (.inst kb fb) (μS a b m met)) := by kernel_rfl
end
end Mini
namespace Mini
open P.An
section
variable {n : Nat} {μ : Mu} {kb : Addr} {fb : List (Str × V)} {t : Str} {a b m : Int} {met : List V}
noncomputable def allS (x k : Nat) : List (List Nat) := (allD k).map fun c => x :: c
theorem wr_41 : (allS 1 3).map (lhsW (callF W0 (n + 6)) (.inst kb fb) (μS a b m met)) = (allS 1 3).map (rhsW (callF W0 (n + 6)) (.inst kb fb) (μS a b m met)) := by kernel_rfl
theorem wr_42 : (allS 2 3).map (lhsW (callF W0 (n + 6)) (.inst kb fb) (μS a b m met)) = (allS 2 3).map (rhsW (callF W0 (n + 6)) (.inst kb fb) (μS a b m met)) := by kernel_rfl
theorem wr_43 : (allS 3 3).map (lhsW (callF W0 (n + 6)) (.inst kb fb) (μS a b m met)) = (allS 3 3).map (rhsW (callF W0 (n + 6)) (.inst kb fb) (μS a b m met)) := by kernel_rfl
end
end Mini
namespace Mini
open P.An
section
variable {n : Nat} {μ : Mu} {kb : Addr} {fb : List (Str × V)} {t : Str} {a b m : Int} {met : List V}
theorem wk_1 : (allD 1).map (fun c => callF W0 (n + 6) 409 [fnV c (.inst kb fb), .list (splitsV c)] μ) = (allD 1).map (fun c => some (.val (wkV (.inst kb fb) c), μ)) := by kernel_rfl
theorem wk_2 : (allD 2).map (fun c => callF W0 (n + 6) 409 [fnV c (.inst kb fb), .list (splitsV c)] μ) = (allD 2).map (fun c => some (.val (wkV (.inst kb fb) c), μ)) := by kernel_rfl
theorem wk_3 : (allD 3).map (fun c => callF W0 (n + 6) 409 [fnV c (.inst kb fb), .list (splitsV c)] μ) = (allD 3).map (fun c => some (.val (wkV (.inst kb fb) c), μ)) := by kernel_rfl
theorem wk_41 : (allS 1 3).map (fun c => callF W0 (n + 6) 409 [fnV c (.inst kb fb), .list (splitsV c)] μ) = (allS 1 3).map (fun c => some (.val (wkV (.inst kb fb) c), μ)) := by kernel_rfl
theorem wk_42 : (allS 2 3).map (fun c => callF W0 (n + 6) 409 [fnV c (.inst kb fb), .list (splitsV c)] μ) = (allS 2 3).map (fun c => some (.val (wkV (.inst kb fb) c), μ)) := by kernel_rfl
theorem wk_43 : (allS 3 3).map (fun c => callF W0 (n + 6) 409 [fnV c (.inst kb fb), .list (splitsV c)] μ) = (allS 3 3).map (fun c => some (.val (wkV (.inst kb fb) c), μ)) := by kernel_rfl
theorem pw_1 : (allD 1).map (fun c => P.playI (callF W0 (n + 6)) is513 md0 (callT W0 649 [fnV c (.inst kb fb), .list (rowsV c)] μ) [call (.val (.str t)) μ]) = (allD 1).map (fun c => ((callF W0 (n + 6) 513 [wkV (.inst kb fb) c] μ = some (.val (.str t), μ)) ∧ True, some (.val (.str t), μ))) := by kernel_rfl
theorem pw_2 : (allD 2).map (fun c => P.playI (callF W0 (n + 6)) is513 md0 (callT W0 649 [fnV c (.inst kb fb), .list (rowsV c)] μ) [call (.val (.str t)) μ]) = (allD 2).map (fun c => ((callF W0 (n + 6) 513 [wkV (.inst kb fb) c] μ = some (.val (.str t), μ)) ∧ True, some (.val (.str t), μ))) := by kernel_rfl
theorem pw_3 : (allD 3).map (fun c => P.playI (callF W0 (n + 6)) is513 md0 (callT W0 649 [fnV c (.inst kb fb), .list (rowsV c)] μ) [call (.val (.str t)) μ]) = (allD 3).map (fun c => ((callF W0 (n + 6) 513 [wkV (.inst kb fb) c] μ = some (.val (.str t), μ)) ∧ True, some (.val (.str t), μ))) := by kernel_rfl
theorem pw_41 : (allS 1 3).map (fun c => P.playI (callF W0 (n + 6)) is513 md0 (callT W0 649 [fnV c (.inst kb fb), .list (rowsV c)] μ) [call (.val (.str t)) μ]) = (allS 1 3).map (fun c => ((callF W0 (n + 6) 513 [wkV (.inst kb fb) c] μ = some (.val (.str t), μ)) ∧ True, some (.val (.str t), μ))) := by kernel_rfl
theorem pw_42 : (allS 2 3).map (fun c => P.playI (callF W0 (n + 6)) is513 md0 (callT W0 649 [fnV c (.inst kb fb), .list (rowsV c)] μ) [call (.val (.str t)) μ]) = (allS 2 3).map (fun c => ((callF W0 (n + 6) 513 [wkV (.inst kb fb) c] μ = some (.val (.str t), μ)) ∧ True, some (.val (.str t), μ))) := by kernel_rfl
theorem pw_43 : (allS 3 3).map (fun c => P.playI (callF W0 (n + 6)) is513 md0 (callT W0 649 [fnV c (.inst kb fb), .list (rowsV c)] μ) [call (.val (.str t)) μ]) = (allS 3 3).map (fun c => ((callF W0 (n + 6) 513 [wkV (.inst kb fb) c] μ = some (.val (.str t), μ)) ∧ True, some (.val (.str t), μ))) := by kernel_rfl
theorem rg_1 : (allD 1).map (fun c => callF W0 (n + 6) 654 [fnV c (.inst kb fb), .list (rowsV c), wrV c] μ) = (allD 1).map (fun c => some (.val (.bool true), μ)) := by kernel_rfl
theorem rg_2 : (allD 2).map (fun c => callF W0 (n + 6) 654 [fnV c (.inst kb fb), .list (rowsV c), wrV c] μ) = (allD 2).map (fun c => some (.val (.bool true), μ)) := by kernel_rfl
theorem rg_3 : (allD 3).map (fun c => callF W0 (n + 6) 654 [fnV c (.inst kb fb), .list (rowsV c), wrV c] μ) = (allD 3).map (fun c => some (.val (.bool true), μ)) := by kernel_rfl
theorem rg_41 : (allS 1 3).map (fun c => callF W0 (n + 6) 654 [fnV c (.inst kb fb), .list (rowsV c), wrV c] μ) = (allS 1 3).map (fun c => some (.val (.bool true), μ)) := by kernel_rfl
theorem rg_42 : (allS 2 3).map (fun c => callF W0 (n + 6) 654 [fnV c (.inst kb fb), .list (rowsV c), wrV c] μ) = (allS 2 3).map (fun c => some (.val (.bool true), μ)) := by kernel_rfl
theorem rg_43 : (allS 3 3).map (fun c => callF W0 (n + 6) 654 [fnV c (.inst kb fb), .list (rowsV c), wrV c] μ) = (allS 3 3).map (fun c => some (.val (.bool true), μ)) := by kernel_rfl
end
end Mini
namespace Mini
noncomputable def idx (i : Nat) : Nat → List Nat
  | 0 => []
  | k + 1 => i :: idx (i + 1) k
theorem mem_idx {j : Nat} : ∀ {k i : Nat}, i ≤ j → j < i + k → j ∈ idx i k
  | 0, i, h1, h2 => absurd h2 (by omega)
  | k + 1, i, h1, h2 => by
    unfold idx
    by_cases e : j = i
    · subst e; exact List.mem_cons_self
    · exact List.mem_cons_of_mem _ (mem_idx (by omega) (by omega))
theorem gp_F : allF.map (fun c => (idx 0 c.length).map fun (i : Nat) => getItemM (.list (psV c)) (.int i)) = allF.map (fun c => (idx 0 c.length).map fun (i : Nat) => some (pS1 i)) := by kernel_rfl
theorem gf_F : allF.map (fun c => (idx 0 c.length).map fun (i : Nat) => getItemM (.list (flagsV c)) (.int i)) = allF.map (fun c => (idx 0 c.length).map fun (i : Nat) => some (.bool (Nat.ble 1 (nthD 0 c i)))) := by kernel_rfl
theorem gp {c : List Nat} (hc : c ∈ allF) {i : Nat} (hi : i < c.length) : getItemM (.list (psV c)) (.int i) = some (pS1 i) :=
  of_map (of_map gp_F hc) (mem_idx (Nat.zero_le _) (by omega))
theorem gf {c : List Nat} (hc : c ∈ allF) {i : Nat} (hi : i < c.length) : getItemM (.list (flagsV c)) (.int i) = some (.bool (Nat.ble 1 (nthD 0 c i))) :=
  of_map (of_map gf_F hc) (mem_idx (Nat.zero_le _) (by omega))
end Mini
namespace Mini
noncomputable def inTrip (t : Nat × Nat × Nat) : Bool := Nat.blt t.1 4 && Nat.blt t.2.1 4 && Nat.blt t.2.2 6
theorem inTrip_mem {i j v : Nat} (h : inTrip (i, j, v) = true) : (i, j, v) ∈ tripN := by
  simp only [inTrip, Bool.and_eq_true] at h
  obtain ⟨⟨h1, h2⟩, h3⟩ := h
  have h1 : i < 4 := Nat.le_of_ble_eq_true h1
  have h2 : j < 4 := Nat.le_of_ble_eq_true h2
  have h3 : v < 6 := Nat.le_of_ble_eq_true h3
  simp only [tripN, List.mem_flatMap, List.mem_map]
  have e1 : i ∈ [0, 1, 2, 3] := by rcases i with _ | _ | _ | _ | _ <;> simp_all <;> omega
  have e2 : j ∈ [0, 1, 2, 3] := by rcases j with _ | _ | _ | _ | _ <;> simp_all <;> omega
  have e3 : v ∈ [0, 1, 2, 3, 4, 5] := by rcases v with _ | _ | _ | _ | _ | _ | _ <;> simp_all <;> omega
  exact ⟨i, e1, j, e2, v, e3, rfl⟩
noncomputable def okN : List (Str × V) → List (Nat × Nat × Nat) → Bool
  | _, [] => true
  | nd, (i, j, v) :: r => inTrip (i, j, v) && (has i v nd && (Mini.fits nd.length && okN (nxt i v nd) r))
section
variable {n : Nat} {a b m : Int} {met : List V} {F B : V} {μ : Mu}
theorem obN_of {K : Prop} (k : K) : ∀ {s : List (Nat × Nat × Nat)} {nd : List (Str × V)}, okN nd s = true → obN (callF W0 (n + 4)) (μS a b m met) nd s K
  | [], _, _ => k
  | (i, j, v) :: r, nd, h => by
    simp only [okN, Bool.and_eq_true] at h
    exact ⟨next_spec (inTrip_mem h.1) h.2.1 h.2.2.1, obN_of k h.2.2.2⟩
noncomputable def ok4 : List (Str × V) → Nat → List Nat → Bool
  | _, _, [] => true
  | nd, i, c :: r => match Nat.ble 2 c with
    | false => ok4 nd (i + 1) r
    | true => okN nd (stp4 i c) && ok4 (finN nd (stp4 i c)) (i + 1) r
theorem ok4_F : allF.all (ok4 [] 0) = true := by kernel_rfl
theorem cons_look2 : getItemM (.dictS consL) (.str (conS 2)) = some (infoV 2) := by kernel_rfl
theorem cons_look3 : ∀ c, getItemM (.dictS consL) (.str (conS c)) = some (infoV c)
  | 0 => by kernel_rfl
  | 1 => by kernel_rfl
  | 2 => by kernel_rfl
  | _ + 3 => by kernel_rfl
structure Says (F : V) (c : List Nat) : Prop where
  isIn : ∀ i, i < c.length → 1 ≤ nthD 0 c i → cmpop .In (pS1 i) F = some (Nat.ble 2 (nthD 0 c i))
  get : ∀ i, i < c.length → 2 ≤ nthD 0 c i → getItemM F (pS1 i) = some (.str (conS (nthD 0 c i)))
theorem nthD_app {x : Nat} : ∀ {p s : List Nat}, nthD 0 (p ++ x :: s) p.length = x
  | [], _ => rfl
  | _ :: p, s => nthD_app (p := p)
theorem ob4_of {c : List Nat} (hc : c ∈ allF) (hF : Says F c) : ∀ (s p : List Nat) (nd : List (Str × V)), c = p ++ s → ok4 nd p.length s = true → ob4 (callF W0 (n + 4)) (psV c) (flagsV c) F (μS a b m met) nd p.length s
  | [], _, _, _, _ => trivial
  | x :: s, p, nd, e, h => by
    have hl : p.length < c.length := by rw [e]; simp
    have hx : nthD 0 c p.length = x := by rw [e]; exact nthD_app
    have e' : c = (p ++ [x]) ++ s := by rw [e]; simp
    have hp : (p ++ [x]).length = p.length + 1 := by simp
    unfold ob4
    refine ⟨gp hc hl, by rw [gf hc hl, hx], ?_⟩
    unfold ok4 at h
    cases h1 : Nat.ble 1 x with
    | false =>
      have h2 : Nat.ble 2 x = false := by
        cases q : Nat.ble 2 x with
        | false => rfl
        | true => exact absurd (Nat.ble_eq_true_of_le (Nat.le_trans (by decide : 1 ≤ 2) (Nat.le_of_ble_eq_true q))) (by rw [h1]; simp)
      rw [h2] at h
      have := ob4_of hc hF s (p ++ [x]) nd e' (by rw [hp]; exact h)
      rw [hp] at this
      exact this
    | true =>
      have i1 := hF.isIn p.length hl (by rw [hx]; exact Nat.le_of_ble_eq_true h1)
      rw [hx] at i1
      refine ⟨i1, ?_⟩
      cases h2 : Nat.ble 2 x with
      | false =>
        rw [h2] at h
        have := ob4_of hc hF s (p ++ [x]) nd e' (by rw [hp]; exact h)
        rw [hp] at this
        exact this
      | true =>
        rw [h2] at h
        simp only [Bool.and_eq_true] at h
        have g := hF.get p.length hl (by rw [hx]; exact Nat.le_of_ble_eq_true h2)
        rw [hx] at g
        have := ob4_of hc hF s (p ++ [x]) (finN nd (stp4 p.length x)) e' (by rw [hp]; exact h.2)
        rw [hp] at this
        exact ⟨g, cons_look3 x, obN_of ⟨g, this⟩ h.1⟩
theorem ob11_of {c : List Nat} (hc : c ∈ allF) (hF : Says F c) : ∀ (s p : List Nat), c = p ++ s → ob11 (psV c) (flagsV c) F p.length s
  | [], _, _ => trivial
  | x :: s, p, e => by
    have hl : p.length < c.length := by rw [e]; simp
    have hx : nthD 0 c p.length = x := by rw [e]; exact nthD_app
    have e' : c = (p ++ [x]) ++ s := by rw [e]; simp
    have hp : (p ++ [x]).length = p.length + 1 := by simp
    have IH := ob11_of hc hF s (p ++ [x]) e'
    rw [hp] at IH
    unfold ob11
    refine ⟨by rw [gf hc hl, hx], ?_⟩
    cases h1 : Nat.ble 1 x with
    | false => exact IH
    | true =>
      have i1 := hF.isIn p.length hl (by rw [hx]; exact Nat.le_of_ble_eq_true h1)
      rw [hx] at i1
      refine ⟨gp hc hl, i1, ?_⟩
      cases h2 : Nat.ble 2 x with
      | false => exact IH
      | true =>
        have g := hF.get p.length hl (by rw [hx]; exact Nat.le_of_ble_eq_true h2)
        rw [hx] at g
        exact ⟨gp hc hl, g, IH⟩
end
end Mini
namespace Mini
noncomputable def allCS (x k : Nat) : List (List Nat) := (allC k).map fun c => x :: c
section
variable {n : Nat} {a b m : Int} {met : List V} {found fb : List (Str × V)} {kb : Addr}
theorem k4_40 : (allCS 0 3).map (lhs4 (callF W0 (n + 6)) (.inst kb fb) (.dictS found) (μS a b m met)) = (allCS 0 3).map (rhs4 (callF W0 (n + 6)) (.inst kb fb) (.dictS found) (μS a b m met)) := by kernel_rfl
theorem k4_41 : (allCS 1 3).map (lhs4 (callF W0 (n + 6)) (.inst kb fb) (.dictS found) (μS a b m met)) = (allCS 1 3).map (rhs4 (callF W0 (n + 6)) (.inst kb fb) (.dictS found) (μS a b m met)) := by kernel_rfl
theorem k4_42 : (allCS 2 3).map (lhs4 (callF W0 (n + 6)) (.inst kb fb) (.dictS found) (μS a b m met)) = (allCS 2 3).map (rhs4 (callF W0 (n + 6)) (.inst kb fb) (.dictS found) (μS a b m met)) := by kernel_rfl
theorem k4_43 : (allCS 3 3).map (lhs4 (callF W0 (n + 6)) (.inst kb fb) (.dictS found) (μS a b m met)) = (allCS 3 3).map (rhs4 (callF W0 (n + 6)) (.inst kb fb) (.dictS found) (μS a b m met)) := by kernel_rfl
end
end Mini
namespace Mini
open P.An
section
variable {C : CallT} {x con : Str} {xs : List V} {μ : Mu} {v w : Slot}
noncomputable def ρ5 (v w : Slot) : Rho := [(so "name", v), (so "con", w)]
noncomputable def S5 (x con : Str) : Rho := ρ5 (.val (.str x)) (.val (.str con))
theorem e5_nil {ρ : Rho} : cEach C 38 E5 [] (ρ, μ) = some ([], (ρ, μ)) := by kernel_rfl
noncomputable def e5L (x : Str) (xs : List V) (ρ : Rho) (μ : Mu) (con : Str) : P.Ans (List V × St) := tEach 38 E5 (pairV (x, con) :: xs) (ρ, μ)
noncomputable def e5R (x : Str) (xs : List V) (μ : Mu) (con : Str) : P.Ans (List V × St) := bif aloneC con then (tEach 38 E5 xs (S5 x con, μ)).bind fun p => .ret (pairV (x, con) :: p.1, p.2) else tEach 38 E5 xs (S5 x con, μ)
theorem e5_at0 : conNames.map (fun con => P.run C (e5L x xs [] μ con)) = conNames.map (fun con => P.run C (e5R x xs μ con)) := by kernel_rfl
theorem e5_at1 : conNames.map (fun con => P.run C (e5L x xs (ρ5 v w) μ con)) = conNames.map (fun con => P.run C (e5R x xs μ con)) := by kernel_rfl
theorem e5_step {ρ : Rho} (hr : ρ = [] ∨ ∃ v w, ρ = ρ5 v w) (hc : con ∈ conNames) : cEach C 38 E5 (pairV (x, con) :: xs) (ρ, μ) = (cEach C 38 E5 xs (S5 x con, μ)).bind fun p => some ((bif aloneC con then [pairV (x, con)] else []) ++ p.1, p.2) := by
  have h : P.run C (e5L x xs ρ μ con) = P.run C (e5R x xs μ con) := by
    rcases hr with rfl | ⟨v, w, rfl⟩
    · exact of_map e5_at0 hc
    · exact of_map e5_at1 hc
  show P.run C (e5L x xs ρ μ con) = _
  rw [h]
  unfold e5R cEach
  cases aloneC con with
  | true => exact run_bind _ _
  | false =>
    show P.run C (tEach 38 E5 xs (S5 x con, μ)) = _
    cases P.run C (tEach 38 E5 xs (S5 x con, μ)) <;> rfl
end
noncomputable def dueP (ps : List (Str × Str)) : List (Str × Str) := ps.filter fun p => aloneC p.2
theorem e5_all {C : CallT} {μ : Mu} : ∀ (ps : List (Str × Str)) (ρ : Rho), (ρ = [] ∨ ∃ v w, ρ = ρ5 v w) → (∀ p ∈ ps, p.2 ∈ conNames) → ∃ ρ', cEach C 38 E5 (ps.map pairV) (ρ, μ) = some ((dueP ps).map pairV, (ρ', μ))
  | [], ρ, _, _ => ⟨ρ, e5_nil⟩
  | (x, con) :: r, ρ, hr, hc => by
    obtain ⟨ρ', h⟩ := e5_all r (S5 x con) (.inr ⟨_, _, rfl⟩) fun p hp => hc p (List.mem_cons_of_mem _ hp)
    refine ⟨ρ', ?_⟩
    rw [List.map_cons, e5_step hr (hc (x, con) List.mem_cons_self), h]
    unfold dueP
    rw [List.filter_cons]
    cases aloneC con <;> rfl
theorem pairs_due : ∀ (qs : List (Str × Str)) (fs : List (Str × V)), pairsS (qs.map pairV) fs = some (foldP fs qs)
  | [], _ => rfl
  | (x, con) :: r, fs => pairs_due r (put x (.str con) fs)
theorem due_dict {qs : List (Str × Str)} (h : qs.length ≤ 1000000) : prim 8 [.list (qs.map pairV)] = some (.own (.dictS (foldP [] qs))) := by
  show gdo (Mini.fits (qs.map pairV).length) ((pairsS (qs.map pairV) []).map _) = _
  rw [fits_of (by rw [List.length_map]; exact Nat.le_trans h (by decide)), pairs_due]
  rfl
section
variable {n : Nat} {μ0 μ1 μ2 μ3 μ4 : Mu} {r1 r2 r3 r4 : Int} {b1 b2 b3 b4 : Bool}
theorem e7_1 (h1 : callF W0 n 620 [.reg 0, .int 4] μ0 = some (.val (.int r1), μ1)) (c1 : cmpop .Gt (.int r1) (.int 0) = some b1) :
    ∃ ρ, cEach (callF W0 n) 39 E7 [.str (so "p1")] ([(so "source", .val (.reg 0))], μ0) = some ([.bool b1], (ρ, μ1)) :=
  each_play (md := md1) [call (.val (.int r1)) μ1, bool b1] (And.intro h1 (And.intro c1 trivial)) (by kernel_rfl)
theorem e7_2 (h1 : callF W0 n 620 [.reg 0, .int 4] μ0 = some (.val (.int r1), μ1)) (c1 : cmpop .Gt (.int r1) (.int 0) = some b1) (h2 : callF W0 n 620 [.reg 0, .int 4] μ1 = some (.val (.int r2), μ2)) (c2 : cmpop .Gt (.int r2) (.int 0) = some b2) :
    ∃ ρ, cEach (callF W0 n) 39 E7 [.str (so "p1"), .str (so "p2")] ([(so "source", .val (.reg 0))], μ0) = some ([.bool b1, .bool b2], (ρ, μ2)) :=
  each_play (md := md1) [call (.val (.int r1)) μ1, bool b1, call (.val (.int r2)) μ2, bool b2] (And.intro h1 (And.intro c1 (And.intro h2 (And.intro c2 trivial)))) (by kernel_rfl)
theorem e7_3 (h1 : callF W0 n 620 [.reg 0, .int 4] μ0 = some (.val (.int r1), μ1)) (c1 : cmpop .Gt (.int r1) (.int 0) = some b1) (h2 : callF W0 n 620 [.reg 0, .int 4] μ1 = some (.val (.int r2), μ2)) (c2 : cmpop .Gt (.int r2) (.int 0) = some b2) (h3 : callF W0 n 620 [.reg 0, .int 4] μ2 = some (.val (.int r3), μ3)) (c3 : cmpop .Gt (.int r3) (.int 0) = some b3) :
    ∃ ρ, cEach (callF W0 n) 39 E7 [.str (so "p1"), .str (so "p2"), .str (so "p3")] ([(so "source", .val (.reg 0))], μ0) = some ([.bool b1, .bool b2, .bool b3], (ρ, μ3)) :=
  each_play (md := md1) [call (.val (.int r1)) μ1, bool b1, call (.val (.int r2)) μ2, bool b2, call (.val (.int r3)) μ3, bool b3] (And.intro h1 (And.intro c1 (And.intro h2 (And.intro c2 (And.intro h3 (And.intro c3 trivial)))))) (by kernel_rfl)
theorem e7_4 (h1 : callF W0 n 620 [.reg 0, .int 4] μ0 = some (.val (.int r1), μ1)) (c1 : cmpop .Gt (.int r1) (.int 0) = some b1) (h2 : callF W0 n 620 [.reg 0, .int 4] μ1 = some (.val (.int r2), μ2)) (c2 : cmpop .Gt (.int r2) (.int 0) = some b2) (h3 : callF W0 n 620 [.reg 0, .int 4] μ2 = some (.val (.int r3), μ3)) (c3 : cmpop .Gt (.int r3) (.int 0) = some b3) (h4 : callF W0 n 620 [.reg 0, .int 4] μ3 = some (.val (.int r4), μ4)) (c4 : cmpop .Gt (.int r4) (.int 0) = some b4) :
    ∃ ρ, cEach (callF W0 n) 39 E7 [.str (so "p1"), .str (so "p2"), .str (so "p3"), .str (so "p4")] ([(so "source", .val (.reg 0))], μ0) = some ([.bool b1, .bool b2, .bool b3, .bool b4], (ρ, μ4)) :=
  each_play (md := md1) [call (.val (.int r1)) μ1, bool b1, call (.val (.int r2)) μ2, bool b2, call (.val (.int r3)) μ3, bool b3, call (.val (.int r4)) μ4, bool b4] (And.intro h1 (And.intro c1 (And.intro h2 (And.intro c2 (And.intro h3 (And.intro c3 (And.intro h4 (And.intro c4 trivial)))))))) (by kernel_rfl)
end
section
variable {n : Nat} {a b m : Int} {met : List V}
theorem fresh_new : callF W0 (n + 2) 602 [.list [.str (so "h"), .str (so "w")]] [some (.list [.int a, .int b]), some (.dictS [(so "many", .int m)]), some (.list met), none, none] = some (.val frI, μS a b m met []) := by kernel_rfl
end
end Mini
namespace Mini
open P.An
noncomputable def md6a : P.Md := { md0 with cmp := fun op => (match op with | .Lt => true | _ => false), prim := fun n => Nat.beq n 0 }
noncomputable def md6 : P.Md := { md0 with cmp := fun _ => true, bin := true, prim := fun _ => true, get := true }
noncomputable def pI (i : Int) : P.An := slot (.val (.int i))
section
variable {n : Nat} {μ : Mu} {xs : List V} {len c c1 big q0 q1 q2 q3 q4 mx tn pr : Int} {t : Bool}
theorem p10 (c : Int) : prim 10 [.int c] = some (.val (.int c)) := rfl
theorem pool_0 (h0 : prim 0 [.list xs] = some (.val (.int len))) (h1 : cmpop .Lt (.int 0) (.int len) = some false) :
    callF W0 (n + 1) 613 [.list xs, .int 0] μ = some (.own (.list [.int 0, .int 820607]), μ) :=
  call_play md6a [pI len, bool false] (And.intro h0 (And.intro h1 trivial)) (by kernel_rfl)
theorem pool_1 (h0 : prim 0 [.list xs] = some (.val (.int len))) (h1 : cmpop .Lt (.int 0) (.int len) = some true) (h2 : getItemM (.list xs) (.int 0) = some (.int c)) (h4 : binop .Sub (.int (-1)) (.int c) = some (.val (.int c1)))
    (h6 : prim 6 [.int c, .int c1] = some (.val (.int big))) (h8 : binop .Mod (.int big) (.int 2147483629) = some (.val (.int q0))) (h11 : binop .Add (.int q0) (.int 0) = some (.val (.int q1))) (h13 : binop .Add (.int q1) (.int 0) = some (.val (.int q2)))
    (h14 : binop .Add (.int q2) (.int 17) = some (.val (.int q3))) (h15 : binop .Mult (.int q3) (.int 48271) = some (.val (.int q4))) (h17 : binop .Mod (.int q4) (.int 2147483647) = some (.val (.int mx)))
    (h19 : cmpop .GtE (.int big) (.int 1000000000000000000) = some t) (h20 : prim 10 [.bool t] = some (.val (.int tn))) (h21 : binop .Mult (.int big) (.int tn) = some (.val (.int pr))) :
    callF W0 (n + 1) 613 [.list xs, .int 0] μ = some (.own (.list [.int pr, .int mx]), μ) :=
  call_play md6 [pI len, bool true, val (.int c), pI c, pI c1, pI c1, pI big, pI big, pI q0, pI 0, pI 0, pI q1, pI 0, pI q2, pI q3, pI q4, pI q4, pI mx, pI 1000000000000000000, bool t, pI tn, pI pr]
    (And.intro h0 (And.intro h1 (And.intro h2 (And.intro (p10 c) (And.intro h4 (And.intro (p10 c1) (And.intro h6 (And.intro (p10 big) (And.intro h8 (And.intro (show binop .Mult (.int 7919) (.int 0) = some (.val (.int 0)) from rfl) (And.intro (show binop .Mult (.int 0) (.int 0) = some (.val (.int 0)) from rfl) (And.intro h11 (And.intro (show binop .Mult (.int 31) (.int 0) = some (.val (.int 0)) from rfl) (And.intro h13 (And.intro h14 (And.intro h15 (And.intro (p10 q4) (And.intro h17 (And.intro (show binop .Pow (.int 10) (.int 18) = some (.val (.int 1000000000000000000)) from rfl) (And.intro h19 (And.intro h20 (And.intro h21 trivial)))))))))))))))))))))) (by kernel_rfl)
end
theorem mult_small {i j : Int} (h : j.natAbs < 2 ^ 64) : binop .Mult (.int i) (.int j) = some (.val (.int (i * j))) := by
  have : (Nat.blt i.natAbs (2 ^ 64) || Nat.blt j.natAbs (2 ^ 64)) = true := by rw [show Nat.blt j.natAbs (2 ^ 64) = true from (Nat.blt_eq).mpr h, Bool.or_true]
  exact op_mul this
theorem mod_pos {i j : Int} (h : 0 < j) : binop .Mod (.int i) (.int j) = some (.val (.int (i % j))) := op_mod h
theorem pool_spec {script : List Int} (h : script.length ≤ 63) (n : Nat) (μ : Mu) : ∃ a0 b0, callF W0 (n + 1) 613 [.list (script.map .int), .int 0] μ = some (.own (.list [.int a0, .int b0]), μ) := by
  have hl : prim 0 [.list (script.map .int)] = some (.val (.int (script.map V.int).length)) := op_len (by rw [List.length_map]; exact Nat.le_trans h (by decide))
  cases script with
  | nil => exact ⟨0, 820607, pool_0 hl rfl⟩
  | cons c r =>
    refine ⟨_, _, pool_1 (c := c) (c1 := -1 - c) (big := if c < -1 - c then -1 - c else c) (t := decide ((if c < -1 - c then -1 - c else c) ≥ 1000000000000000000)) hl ?_ rfl rfl rfl (mod_pos (by decide)) rfl rfl rfl (mult_small (by decide)) (mod_pos (by decide)) rfl rfl (mult_small ?_)⟩
    · show some (decide ((0 : Int) < ((List.map V.int (c :: r)).length : Int))) = some true
      rw [decide_eq_true]
      simp
    · have : ∀ b : Bool, (if b = true then (1 : Int) else 0).natAbs < 2 ^ 64 := fun b => by cases b <;> decide
      exact this _
end Mini
namespace Mini
noncomputable def fldN (i c : Nat) : List Str := match c with
  | 2 => [gN i 1]
  | 3 => [gN i 1, gN i 2]
  | _ => []
noncomputable def pAll : List Str := (idx 0 4).flatMap fun i => [pN i, gN i 1, gN i 2]
theorem nt_pall {n : Nat} {μ : Mu} : pAll.map (fun x => callF W0 (n + 4) 465 [.str x] μ) = pAll.map (fun x => some (.val (.str x), μ)) := by kernel_rfl
theorem len_pall : pAll.all (fun x => decide (x.length ≤ 12)) = true := by decide +kernel
theorem nt_p {x : Str} (h : x ∈ pAll) : NT x := ⟨of_decide_eq_true (List.all_eq_true.mp len_pall x h), fun N μ hN => up hN fun n => of_map (nt_pall (n := n) (μ := μ)) h⟩
theorem p_mem {i : Nat} (hi : i < 4) : pN i ∈ pAll ∧ gN i 1 ∈ pAll ∧ gN i 2 ∈ pAll := by
  have : i ∈ idx 0 4 := mem_idx (Nat.zero_le _) (by omega)
  unfold pAll
  simp only [List.mem_flatMap]
  exact ⟨⟨i, this, by simp⟩, ⟨i, this, by simp⟩, ⟨i, this, by simp⟩⟩
theorem nt_pN {i : Nat} (hi : i < 4) : NT (pN i) := nt_p (p_mem hi).1
theorem nt_g1 {i : Nat} (hi : i < 4) : NT (gN i 1) := nt_p (p_mem hi).2.1
theorem nt_g2 {i : Nat} (hi : i < 4) : NT (gN i 2) := nt_p (p_mem hi).2.2
theorem fld_eq : (idx 0 4).map (fun i => (idx 2 2).map fun c => fldS i c) = (idx 0 4).map (fun i => (idx 2 2).map fun c => fldN i c) := by kernel_rfl
theorem fldS_eq {i c : Nat} (hi : i < 4) (h2 : 2 ≤ c) (h3 : c ≤ 3) : fldS i c = fldN i c := of_map (of_map fld_eq (mem_idx (Nat.zero_le _) (by omega))) (mem_idx h2 (by omega))
theorem pN_eq (i : Nat) : nthD (so "") pNm i = pN i := rfl
noncomputable def wL (k : Nat) : Nat := 300 * k
theorem tx_con {i c k : Nat} (hi : i < 4) (h2 : 2 ≤ c) (h3 : c ≤ 3) : Tx 8 100 (vConN (conS c) (fldS i c)) := by
  rw [fldS_eq hi h2 h3]
  have e1 : NT (so "One") := nt_con (by decide +kernel)
  have e2 : NT (so "Two") := nt_con (by decide +kernel)
  rcases (show c = 2 ∨ c = 3 by omega) with rfl | rfl
  · exact (tx_con1 e1 (tx_var (nt_g1 hi)) (Nat.le_refl 5) (by omega)).mono (by omega) (by omega)
  · exact (tx_con2 e2 (tx_var (nt_g1 hi)) (tx_var (nt_g2 hi)) (Nat.le_refl 5) (by omega)).mono (by omega) (by omega)
theorem tx_wbody {B : V} {k L : Nat} (hB : Tx k L B) (hk : 8 ≤ k) (hL : L ≤ 300000) : ∀ (c : List Nat) (i : Nat), i + c.length ≤ 4 → (∀ x ∈ c, x ≤ 3) → Tx (k + 3 * c.length) (L + 200 * c.length) (wbody B i c)
  | [], i, _, _ => hB
  | x :: r, i, h, hx => by
    have hlen : (x :: r).length = r.length + 1 := rfl
    rw [hlen] at h ⊢
    have ih := tx_wbody hB hk hL r (i + 1) (by omega) fun y hy => hx y (List.mem_cons_of_mem _ hy)
    unfold wbody
    cases e : Nat.ble 2 x with
    | false => exact ih.mono (by omega) (by omega)
    | true =>
      have := tx_let false (nt_pN (i := i) (by omega)) ((tx_con (k := 0) (i := i) (c := x) (by omega) (Nat.le_of_ble_eq_true e) (hx x List.mem_cons_self)).mono (k' := k + 3 * r.length) (L' := 100) (by omega) (Nat.le_refl _)) ih (by omega) (by omega)
      exact this.mono (by omega) (by omega)
noncomputable def wpsS : Nat → List Nat → List Str
  | _, [] => []
  | i, c :: r => (match Nat.ble 2 c with | true => fldS i c | false => [pN i]) ++ wpsS (i + 1) r
theorem wps_eq : ∀ (c : List Nat) (i : Nat), wps i c = (wpsS i c).map .str
  | [], _ => rfl
  | x :: r, i => by
    unfold wps wpsS
    rw [wps_eq r (i + 1), List.map_append]
    cases Nat.ble 2 x <;> rfl
theorem wps_nt : ∀ (c : List Nat) (i : Nat), i + c.length ≤ 4 → (∀ x ∈ c, x ≤ 3) → (∀ x ∈ wpsS i c, NT x) ∧ (wpsS i c).length ≤ 2 * c.length
  | [], i, _, _ => ⟨fun x h => (nomatch h), Nat.le_refl _⟩
  | x :: r, i, h, hx => by
    have hlen : (x :: r).length = r.length + 1 := rfl
    rw [hlen] at h ⊢
    obtain ⟨h1, h2⟩ := wps_nt r (i + 1) (by omega) fun y hy => hx y (List.mem_cons_of_mem _ hy)
    have h3 := hx x List.mem_cons_self
    have key : ∀ l : List Str, (∀ y ∈ l, NT y) → l.length ≤ 2 → (∀ y ∈ l ++ wpsS (i + 1) r, NT y) ∧ (l ++ wpsS (i + 1) r).length ≤ 2 * (r.length + 1) := fun l g1 g2 => by
      refine ⟨fun y hy => ?_, ?_⟩
      · rcases List.mem_append.mp hy with hy | hy
        · exact g1 y hy
        · exact h1 y hy
      · rw [List.length_append]; omega
    unfold wpsS
    cases e : Nat.ble 2 x with
    | false => exact key [pN i] (fun y hy => by rw [List.mem_singleton.mp hy]; exact nt_pN (by omega)) (by simp)
    | true =>
      have e2 := Nat.le_of_ble_eq_true e
      rw [fldS_eq (by omega) e2 h3]
      rcases (show x = 2 ∨ x = 3 by omega) with rfl | rfl
      · exact key [gN i 1] (fun y hy => by rw [List.mem_singleton.mp hy]; exact nt_g1 (by omega)) (by simp)
      · refine key [gN i 1, gN i 2] (fun y hy => ?_) (by simp)
        rcases List.mem_cons.mp hy with rfl | hy
        · exact nt_g1 (by omega)
        · rw [List.mem_singleton.mp hy]; exact nt_g2 (by omega)
theorem tx_worker {B : V} {k L : Nat} {c : List Nat} (hB : Tx k L B) (hk : 8 ≤ k) (hk2 : k ≤ 24) (hL : L ≤ 300000) (hc : c.length ≤ 4) (hx : ∀ x ∈ c, x ≤ 3) : Tx 38 400000 (wkV B c) := by
  obtain ⟨h1, h2⟩ := wps_nt c 0 (by omega) hx
  have hn : Ns 130 (wps 0 c) := by rw [wps_eq]; exact ns_of h1 (by omega)
  exact (tx_lam hn (tx_wbody hB hk hL c 0 (by omega) hx) (by omega) (by omega)).mono (by omega) (by omega)
theorem ps_eq : ∀ k, k ≤ 4 → ∀ x ∈ pNm.take k, NT x := fun k hk x hx => by
  have : x ∈ pNm := List.mem_of_mem_take hx
  have e : pNm = (idx 0 4).map pN := by kernel_rfl
  rw [e] at this
  obtain ⟨i, hi, rfl⟩ := List.mem_map.mp this
  refine nt_pN ?_
  unfold idx at hi
  simp only [idx, List.mem_cons, List.not_mem_nil, or_false] at hi
  omega
theorem tx_fn {B : V} {k L : Nat} {c : List Nat} (hB : Tx k L B) (hk : 8 ≤ k) (hk2 : k ≤ 24) (hL : L ≤ 300000) (hc : c.length ≤ 4) : Tx 38 400000 (fnV c B) := by
  have hn : Ns 130 (psV c) := ns_of (ps_eq c.length hc) (by rw [List.length_take]; omega)
  exact (tx_lam hn hB (by omega) (by omega)).mono (by omega) (by omega)
end Mini
namespace Mini
open P.An
noncomputable def strip (c : List Nat) : List Nat := c.map fun x => match x with
  | 0 => 1
  | x => x
theorem strip_F : allF.all (fun c => allE.contains (strip c)) = true := by decide +kernel
theorem strip_E {c : List Nat} (h : c ∈ allF) : strip c ∈ allE := by simpa using List.all_eq_true.mp strip_F c h
theorem strip_len (c : List Nat) : (strip c).length = c.length := List.length_map ..
theorem strip_le {c : List Nat} (h : ∀ x ∈ c, x ≤ 3) : ∀ x ∈ strip c, x ≤ 3 := fun x hx => by
  obtain ⟨y, hy, rfl⟩ := List.mem_map.mp hx
  have := h y hy
  cases y <;> simp_all
theorem s_splits : allF.map splitsV = allF.map (fun c => splitsV (strip c)) := by kernel_rfl
theorem s_rows : allF.map rowsV = allF.map (fun c => rowsV (strip c)) := by kernel_rfl
theorem s_want : allF.map wantV = allF.map (fun c => wantV (strip c)) := by kernel_rfl
theorem s_ps : allF.map psV = allF.map (fun c => psV (strip c)) := by kernel_rfl
theorem s_fin : allF.map (fin4 [] 0) = allF.map (fun c => fin4 [] 0 (strip c)) := by kernel_rfl
noncomputable def fitsAll (c : List Nat) : Bool := Mini.fits (splitsV c).length && (Mini.fits ((splitsV c).length + (rowsV c).length) && (Mini.fits (rowsV c).length && (Mini.fits ((rowsV c).length + (wantV c).length) && (Mini.fits ((rowsV c).length + (fldsV c).length) && (Mini.fits ((rowsV c).length + ([] : List V).length) && Mini.fits ((intsV 0 c.length).length + (wantV c).length))))))
theorem fits_E : allE.all fitsAll = true := by kernel_rfl
theorem okW_E : allE.all (fun c => okN (fin4 [] 0 c) (wst c)) = true := by kernel_rfl
theorem mem_D4 {d : List Nat} (h : d ∈ allD 4) : d ∈ allS 1 3 ∨ d ∈ allS 2 3 ∨ d ∈ allS 3 3 := by
  obtain ⟨c, hc, h⟩ := List.mem_flatMap.mp (show d ∈ (allD 3).flatMap fun c => [1 :: c, 2 :: c, 3 :: c] from h)
  simp only [List.mem_cons, List.not_mem_nil, or_false] at h
  unfold allS
  rcases h with rfl | rfl | rfl
  · exact .inl (List.mem_map_of_mem hc)
  · exact .inr (.inl (List.mem_map_of_mem hc))
  · exact .inr (.inr (List.mem_map_of_mem hc))
theorem mem_C4 {d : List Nat} (h : d ∈ allC 4) : d ∈ allCS 0 3 ∨ d ∈ allCS 1 3 ∨ d ∈ allCS 2 3 ∨ d ∈ allCS 3 3 := by
  obtain ⟨c, hc, h⟩ := List.mem_flatMap.mp (show d ∈ (allC 3).flatMap fun c => [0 :: c, 1 :: c, 2 :: c, 3 :: c] from h)
  simp only [List.mem_cons, List.not_mem_nil, or_false] at h
  unfold allCS
  rcases h with rfl | rfl | rfl | rfl
  · exact .inl (List.mem_map_of_mem hc)
  · exact .inr (.inl (List.mem_map_of_mem hc))
  · exact .inr (.inr (.inl (List.mem_map_of_mem hc)))
  · exact .inr (.inr (.inr (List.mem_map_of_mem hc)))
theorem by_E {p : List Nat → Prop} (h1 : ∀ d ∈ allD 1, p d) (h2 : ∀ d ∈ allD 2, p d) (h3 : ∀ d ∈ allD 3, p d) (h41 : ∀ d ∈ allS 1 3, p d) (h42 : ∀ d ∈ allS 2 3, p d) (h43 : ∀ d ∈ allS 3 3, p d) : ∀ d ∈ allE, p d := fun d h => by
  unfold allE at h
  rcases List.mem_append.mp h with h | h
  · exact h1 d h
  rcases List.mem_append.mp h with h | h
  · exact h2 d h
  rcases List.mem_append.mp h with h | h
  · exact h3 d h
  rcases mem_D4 h with h | h | h
  · exact h41 d h
  · exact h42 d h
  · exact h43 d h
theorem by_F {p : List Nat → Prop} (h1 : ∀ d ∈ allC 1, p d) (h2 : ∀ d ∈ allC 2, p d) (h3 : ∀ d ∈ allC 3, p d) (h40 : ∀ d ∈ allCS 0 3, p d) (h41 : ∀ d ∈ allCS 1 3, p d) (h42 : ∀ d ∈ allCS 2 3, p d) (h43 : ∀ d ∈ allCS 3 3, p d) : ∀ d ∈ allF, p d := fun d h => by
  unfold allF at h
  rcases List.mem_append.mp h with h | h
  · exact h1 d h
  rcases List.mem_append.mp h with h | h
  · exact h2 d h
  rcases List.mem_append.mp h with h | h
  · exact h3 d h
  rcases mem_C4 h with h | h | h | h
  · exact h40 d h
  · exact h41 d h
  · exact h42 d h
  · exact h43 d h
theorem mem_allC : ∀ (c : List Nat), (∀ x ∈ c, x ≤ 3) → c ∈ allC c.length
  | [], _ => List.mem_singleton.mpr rfl
  | x :: r, h => by
    refine List.mem_flatMap.mpr ⟨r, mem_allC r fun y hy => h y (List.mem_cons_of_mem _ hy), ?_⟩
    have := h x List.mem_cons_self
    rcases (show x = 0 ∨ x = 1 ∨ x = 2 ∨ x = 3 by omega) with rfl | rfl | rfl | rfl <;> simp
theorem mem_allF {c : List Nat} (h : ∀ x ∈ c, x ≤ 3) (h1 : 1 ≤ c.length) (h4 : c.length ≤ 4) : c ∈ allF := by
  have := mem_allC c h
  unfold allF
  rw [List.mem_append, List.mem_append, List.mem_append]
  rcases (show c.length = 1 ∨ c.length = 2 ∨ c.length = 3 ∨ c.length = 4 by omega) with e | e | e | e <;> rw [e] at this <;> simp [this]
section
variable {n : Nat} {a b m : Int} {met : List V} {found due fb : List (Str × V)} {kb : Addr} {c d : List Nat} {μ : Mu} {t : Str}
theorem l404 (hc : c ∈ allF) (hF : Says (.dictS found) c) (h : callF W0 (n + 6) 399 [.inst kb fb, .dictS consL] (μS a b m met []) = some (.val (.dictS found), μS a b m met [])) :
    callF W0 (n + 7) 404 [fnV c (.inst kb fb), sgV c, .dictS consL, frI] (μS a b m met []) = some (.val (.list (splitsV c)), μS a b m met (fin4 [] 0 c)) :=
  playI_call md4 is4 (call (.val (.dictS found)) (μS a b m met []) :: ans4 (.dictS found) (μS a b m met) [] 0 c) (And.intro h (ob4_of (n := n + 2) hc hF c [] [] rfl (List.all_eq_true.mp ok4_F c hc)))
    (by_F (p := fun c => lhs4 (callF W0 (n + 6)) (.inst kb fb) (.dictS found) (μS a b m met) c = rhs4 (callF W0 (n + 6)) (.inst kb fb) (.dictS found) (μS a b m met) c)
      (fun _ h => of_map k4_1 h) (fun _ h => of_map k4_2 h) (fun _ h => of_map k4_3 h) (fun _ h => of_map k4_40 h) (fun _ h => of_map k4_41 h) (fun _ h => of_map k4_42 h) (fun _ h => of_map k4_43 h) c hc)
theorem l_e11 (hc : c ∈ allF) (hD : Says (.dictS due) c) : ∃ ρ, cEach (callF W0 n) 39 E11 (intsV 0 c.length) ([(so "due", .val (.dictS due)), (so "flags", .val (.list (flagsV c))), (so "params", .val (.list (psV c)))], μ) = some (wantV c, (ρ, μ)) :=
  each_play (md := md4) (ans11 0 c) (ob11_of hc hD c [] rfl) (of_map (e11_F (n := n) (μ := μ) (due := due)) hc)
theorem l_e10 (hd : d ∈ allE) : ∃ ρ, cEach (callF W0 n) 39 E10 (splitsV d) ([], μ) = some (rowsV d, (ρ, μ)) := outL_eq (of_map e10_E hd)
theorem l_e12 (hd : d ∈ allE) : ∃ ρ, cEach (callF W0 n) 38 E12 (rowsV d) ([], μ) = some (wantV d, (ρ, μ)) := outL_eq (of_map e12_E hd)
theorem l_e13 (hd : d ∈ allE) : ∃ ρ, cEach (callF W0 n) 38 E13 (rowsV d) ([], μ) = some (fldsV d, (ρ, μ)) := outL_eq (of_map e13_E hd)
theorem l_e14 (hd : d ∈ allE) : ∃ ρ, cEach (callF W0 n) 37 E14 (rowsV d) ([(so "cons", .val (.dictS consL))], μ) = some ([], (ρ, μ)) := outL_eq (of_map e14_E hd)
theorem l409 (hd : d ∈ allE) : callF W0 (n + 6) 409 [fnV d (.inst kb fb), .list (splitsV d)] μ = some (.val (wkV (.inst kb fb) d), μ) :=
  by_E (p := fun c => callF W0 (n + 6) 409 [fnV c (.inst kb fb), .list (splitsV c)] μ = some (.val (wkV (.inst kb fb) c), μ)) (fun _ h => of_map wk_1 h) (fun _ h => of_map wk_2 h) (fun _ h => of_map wk_3 h) (fun _ h => of_map wk_41 h) (fun _ h => of_map wk_42 h) (fun _ h => of_map wk_43 h) d hd
theorem l649 (hd : d ∈ allE) (h : callF W0 (n + 6) 513 [wkV (.inst kb fb) d] μ = some (.val (.str t), μ)) : callF W0 (n + 7) 649 [fnV d (.inst kb fb), .list (rowsV d)] μ = some (.val (.str t), μ) :=
  playI_call md0 is513 [call (.val (.str t)) μ] (And.intro h trivial)
    (by_E (p := fun c => P.playI (callF W0 (n + 6)) is513 md0 (callT W0 649 [fnV c (.inst kb fb), .list (rowsV c)] μ) [call (.val (.str t)) μ] = ((callF W0 (n + 6) 513 [wkV (.inst kb fb) c] μ = some (.val (.str t), μ)) ∧ True, some (.val (.str t), μ)))
      (fun _ h => of_map pw_1 h) (fun _ h => of_map pw_2 h) (fun _ h => of_map pw_3 h) (fun _ h => of_map pw_41 h) (fun _ h => of_map pw_42 h) (fun _ h => of_map pw_43 h) d hd)
theorem l414 (hd : d ∈ allE) : callF W0 (n + 7) 414 [fnV d (.inst kb fb), .list (splitsV d), .str (so "w"), frI] (μS a b m met (fin4 [] 0 d)) = some (.val (wrV d), μS a b m met (finN (fin4 [] 0 d) (wst d))) :=
  playI_call md0 is599 (ansN (μS a b m met) (fin4 [] 0 d) (wst d) []) (obN_of (n := n + 2) trivial (List.all_eq_true.mp okW_E d hd))
    (by_E (p := fun c => lhsW (callF W0 (n + 6)) (.inst kb fb) (μS a b m met) c = rhsW (callF W0 (n + 6)) (.inst kb fb) (μS a b m met) c)
      (fun _ h => of_map wr_1 h) (fun _ h => of_map wr_2 h) (fun _ h => of_map wr_3 h) (fun _ h => of_map wr_41 h) (fun _ h => of_map wr_42 h) (fun _ h => of_map wr_43 h) d hd)
theorem l654 (hd : d ∈ allE) : callF W0 (n + 6) 654 [fnV d (.inst kb fb), .list (rowsV d), wrV d] μ = some (.val (.bool true), μ) :=
  by_E (p := fun c => callF W0 (n + 6) 654 [fnV c (.inst kb fb), .list (rowsV c), wrV c] μ = some (.val (.bool true), μ)) (fun _ h => of_map rg_1 h) (fun _ h => of_map rg_2 h) (fun _ h => of_map rg_3 h) (fun _ h => of_map rg_41 h) (fun _ h => of_map rg_42 h) (fun _ h => of_map rg_43 h) d hd
end
end Mini
namespace Mini
open P.An
theorem body3 : BodyOK 3 := body_step (by omega) (body_step (by omega) (body_step (by omega) body0))
theorem cc3 : cc 3 = 50 := by decide
theorem LL3 : LL 3 ≤ 300000 := by decide
theorem cnt3 : cnt 3 = 21 := by decide
theorem p_old : ∀ x ∈ pNm, ∀ i < 33, x ≠ nm (so "u") ((i : Nat) : Int) := by decide +kernel
theorem pick1 {x : Str} (hx : x ∈ pNm) : NT x := ps_eq 4 (Nat.le_refl _) x hx
inductive Mid (ks : List (Str × V)) (k : Nat) (a b : Int) : Prop
  | mk (kb : Addr) (fb : List (Str × V)) (a' b' m' : Int) (ps vis : List (Str × Str)) (G' : List (Str × V)) (e : callF W0 59 644 [.reg 0, .reg 1, .dictS ks, .int 3, .reg 2] (muS a b k [] none none) = some (.val (.inst kb fb), muS a' b' m' (ps.map pairV) none none)) (tx : Tx 20 300000 (.inst kb fb)) (len : ps.length ≤ 50)
    (con : ∀ p ∈ ps, p.2 ∈ conNames) (scr : ∀ n μ, callF W0 (n + 3) 399 [.inst kb fb, .dictS consL] μ = some (.val (.dictS (foldP [] vis)), μ)) (same : ∀ p, p ∈ vis ↔ p ∈ dueP ps) (says : ∀ p ∈ dueP ps, look p.1 G' = some (.str p.2)) : Mid ks k a b
theorem mid {ks : List (Str × V)} {k : Nat} (h1 : 1 ≤ k) (hk : k ≤ 4) (hl : ks.length = k) (hp : ∀ p ∈ ks, p.1 ∈ pNm ∧ KV p.2) (a b : Int) : Mid ks k a b := by
  have K : KOK ks k ks 3 := ⟨by intro e; rw [e] at hl; simp at hl; omega, by omega, fun p h => ⟨pick1 (hp p h).1, (hp p h).2⟩, fun _ _ h => h, fun x hx i hi hi2 => by
    obtain ⟨p, hp', rfl⟩ := List.mem_map.mp hx
    have := p_old _ (hp p hp').1 i.toNat (by omega)
    rwa [show ((i.toNat : Nat) : Int) = i by omega] at this⟩
  obtain ⟨t, a', b', m', ps, h, R⟩ := body3 53 ks ks a b k [] none none K (by omega) (by rw [cnt3]; omega) (by rw [cc3]; simp)
  obtain ⟨kb, fb, tt, rfl, _, _⟩ := id R.tx
  obtain ⟨vis, cost, hs, hc, hv⟩ := R.sc
  obtain ⟨G', _, _, hG⟩ := R.g
  rw [cc3] at hc
  refine ⟨kb, fb, a', b', m', ps, vis, G', ?_, R.tx.mono (by decide) LL3, by have := R.len; rw [cc3] at this; exact this, R.cons, fun n μ => scr_spec hs (by omega) n μ, fun p => ?_, fun p hp' => hG p (List.mem_filter.mp hp').1⟩
  · rw [List.nil_append] at h; exact h
  · rw [hv]
    unfold dueP
    rw [List.mem_filter]
inductive Share (ds : List (Str × Str)) (i : Nat) (r : Int) : Prop
  | mk (x : Nat) (le : x ≤ 3) (gt : cmpop .Gt (.int r) (.int 0) = some (Nat.ble 1 x)) (isIn : 1 ≤ x → cmpop .In (pS1 i) (.dictS (foldP [] ds)) = some (Nat.ble 2 x)) (get : 2 ≤ x → getItemM (.dictS (foldP [] ds)) (pS1 i) = some (.str (conS x))) : Share ds i r
theorem pick {G : List (Str × V)} {ds : List (Str × Str)} (hG : ∀ p ∈ ds, look p.1 G = some (.str p.2)) (ha : ∀ p ∈ ds, aloneC p.2 = true) (i : Nat) (r : Int) : Share ds i r := by
  have hin : cmpop .In (pS1 i) (.dictS (foldP [] ds)) = some (look (pN i) (foldP [] ds)).isSome := rfl
  have hget : getItemM (.dictS (foldP [] ds)) (pS1 i) = look (pN i) (foldP [] ds) := rfl
  by_cases h : 0 < r
  · rcases tab_look hG (pN i) with e | ⟨c, e, hm⟩
    · refine ⟨1, by omega, gt_true h, fun _ => ?_, fun h2 => by omega⟩
      rw [hin, e]; rfl
    · have := ha _ hm
      unfold aloneC at this
      rcases Bool.or_eq_true_iff.mp this with hc | hc
      · have := eq_of_beq hc
        dsimp only at this
        subst this
        refine ⟨3, by omega, gt_true h, fun _ => ?_, fun h2 => ?_⟩
        · rw [hin, e]; rfl
        · rw [hget, e]; rfl
      · have := eq_of_beq hc
        dsimp only at this
        subst this
        refine ⟨2, by omega, gt_true h, fun _ => ?_, fun h2 => ?_⟩
        · rw [hin, e]; rfl
        · rw [hget, e]; rfl
  · exact ⟨0, by omega, gt_false h, fun h => by omega, fun h => by omega⟩
theorem says_same {f g : List (Str × V)} (h : ∀ x, look x f = look x g) {c : List Nat} (s : Says (.dictS g) c) : Says (.dictS f) c where
  isIn i hi h1 := by
    have := s.isIn i hi h1
    show some (look (pN i) f).isSome = _
    rw [h]
    exact this
  get i hi h2 := by
    have := s.get i hi h2
    show look (pN i) f = _
    rw [h]
    exact this
end Mini
namespace Mini
open P.An
noncomputable def kindsL : List V := [.str (so "Two"), .str (so "One"), .str (so "Two"), .str (so "Left"), .str (so "New"), .str (so "None"), .none]
theorem kv7 {v : V} (h : v ∈ kindsL) : KV v := by
  unfold kindsL at h
  simp only [List.mem_cons, List.not_mem_nil, or_false] at h
  rcases h with rfl | rfl | rfl | rfl | rfl | rfl | rfl
  · exact .inr ⟨_, by decide +kernel, rfl⟩
  · exact .inr ⟨_, by decide +kernel, rfl⟩
  · exact .inr ⟨_, by decide +kernel, rfl⟩
  · exact .inr ⟨_, by decide +kernel, rfl⟩
  · exact .inr ⟨_, by decide +kernel, rfl⟩
  · exact .inr ⟨_, by decide +kernel, rfl⟩
  · exact .inl rfl
theorem fits_le {n : Nat} (h : n ≤ 16000000) : Mini.fits n = true := Nat.ble_eq_true_of_le h
theorem ne_int (i : Int) : cmpop .NotEq (.int i) (.int i) = some false := congrArg (fun b => some (!b)) (beq_self_eq_true i)
theorem ne_str (s : Str) : cmpop .NotEq (.str s) (.str s) = some false := congrArg (fun b => some (!b)) (beq_self_eq_true s)
theorem ne_nil : cmpop .NotEq (.list []) (.list []) = some false := by kernel_rfl
theorem p_in (i : Nat) (h : i < 4) : pN i ∈ pNm := by
  rcases (show i = 0 ∨ i = 1 ∨ i = 2 ∨ i = 3 by omega) with rfl | rfl | rfl | rfl <;> decide +kernel
section
variable {n : Nat} {a b : Int} {x3 x4 : Option V}
theorem new_p1 : callF W0 (n + 1) 634 [.reg 1, .str (so "p")] (muS a b 0 [] x3 x4) = some (.val (.str (so "p1")), muS a b 1 [] x3 x4) := by kernel_rfl
theorem new_p2 : callF W0 (n + 1) 634 [.reg 1, .str (so "p")] (muS a b 1 [] x3 x4) = some (.val (.str (so "p2")), muS a b 2 [] x3 x4) := by kernel_rfl
theorem new_p3 : callF W0 (n + 1) 634 [.reg 1, .str (so "p")] (muS a b 2 [] x3 x4) = some (.val (.str (so "p3")), muS a b 3 [] x3 x4) := by kernel_rfl
theorem new_p4 : callF W0 (n + 1) 634 [.reg 1, .str (so "p")] (muS a b 3 [] x3 x4) = some (.val (.str (so "p4")), muS a b 4 [] x3 x4) := by kernel_rfl
end
theorem law_1 {script : List Int} {a0 b0 a1 b1 : Int} (hp : callF W0 59 613 [.list (script.map .int), .int 0] [none, none, none, none, none] = some (.own (.list [.int a0, .int b0]), [none, none, none, none, none])) (h1 : callF W0 59 620 [.reg 0, .int 4] (muS a0 b0 0 [] none none) = some (.val (.int 0), muS a1 b1 0 [] none none)) :
    ∃ μ', callF W0 60 659 [.list (script.map .int)] [none, none, none, none, none] = some (.val (.bool true), μ') := by
  obtain ⟨v1, a2, b2, m1, o1⟩ := one_spec (n := 57) a1 b1 1 [] kindsL none none (by decide) (by decide)
  obtain ⟨kb, fb, c0, d0, m', ps, vis, G', hb, tx, hlen, hcn, hscr, hvis, hG⟩ := mid (ks := [(so "p1", v1)]) (k := 1) (by omega) (by omega) rfl (fun p h => by
    simp only [List.mem_cons, List.not_mem_nil, or_false] at h
    rcases h with rfl
    · exact ⟨p_in 0 (by omega), kv7 m1⟩) a2 b2
  obtain ⟨ρ5, h5⟩ := e5_all (C := callF W0 59) (μ := [some (.list [.int c0, .int d0]), some (.dictS [(so "many", .int m')]), some (.fn 99), none, none]) ps [] (.inl rfl) hcn
  have hda : ∀ p ∈ dueP ps, aloneC p.2 = true := fun p hp => (List.mem_filter.mp hp).2
  have hdl : (dueP ps).length ≤ 50 := Nat.le_trans (List.length_filter_le _ _) hlen
  obtain ⟨r1, c1, d1, _, _, t1⟩ := take_spec (n := 58) c0 d0 m' 4 (ps.map pairV) none none (by decide) (by decide)
  obtain ⟨x1, le1, g1, in1, get1⟩ := pick hG hda 0 r1
  have hx : ∀ x ∈ [x1], x ≤ 3 := fun x h => by
    simp only [List.mem_cons, List.not_mem_nil, or_false] at h
    rcases h with rfl <;> assumption
  have hc : [x1] ∈ allF := mem_allF hx (by simp) (by simp)
  have hD : Says (.dictS (foldP [] (dueP ps))) [x1] := ⟨fun i hi h => by match i, hi, h with | 0, _, h => exact in1 h | _ + 1, hi, _ => exact absurd hi (by simp), fun i hi h => by match i, hi, h with | 0, _, h => exact get1 h | _ + 1, hi, _ => exact absurd hi (by simp)⟩
  have hF := says_same (tab_same hvis hG) hD
  obtain ⟨ρ7, h7⟩ := e7_1 t1 g1
  have hd := strip_E hc
  have h404 := l404 (n := 52) (a := c1) (b := d1) (m := m') (met := ps.map pairV) hc hF (hscr 55 _)
  have h11 := l_e11 (n := 59) (μ := μS c1 d1 m' (ps.map pairV) (fin4 [] 0 [x1])) hc hD
  rw [of_map s_splits hc, of_map s_fin hc] at h404
  rw [of_map s_want hc, of_map s_fin hc] at h11
  obtain ⟨ρ11, h11⟩ := h11
  have ep : psV [x1] = psV (strip [x1]) := of_map s_ps hc
  have efn : ∀ B, fnV (strip [x1]) B = fnV [x1] B := fun B => by unfold fnV; rw [ep]
  have hadd : binop .Add (.list (strV (strip [x1]))) (.list (psV [x1])) = some (.own (.list (strV (strip [x1]) ++ psV (strip [x1])))) := by rw [ep]; exact of_map ad_E hd
  obtain ⟨ρ10, h10⟩ := l_e10 (n := 59) (μ := μS c1 d1 m' (ps.map pairV) (fin4 [] 0 (strip [x1]))) hd
  obtain ⟨ρ12, h12⟩ := l_e12 (n := 59) (μ := μS c1 d1 m' (ps.map pairV) (fin4 [] 0 (strip [x1]))) hd
  obtain ⟨ρ13, h13⟩ := l_e13 (n := 59) (μ := μS c1 d1 m' (ps.map pairV) (fin4 [] 0 (strip [x1]))) hd
  obtain ⟨ρ14, h14⟩ := l_e14 (n := 59) (μ := μS c1 d1 m' (ps.map pairV) (fin4 [] 0 (strip [x1]))) hd
  obtain ⟨_, _, tf, _, _, hf⟩ := tx_fn (c := [x1]) tx (by omega) (by omega) (by omega) (by simp)
  obtain ⟨_, _, tw, _, _, hw⟩ := tx_worker (c := strip [x1]) tx (by omega) (by omega) (by omega) (by rw [strip_len]; simp) (strip_le hx)
  have hf : ∀ μ, callF W0 59 513 [fnV [x1] (.inst kb fb)] μ = some (.val (.str tf), μ) := fun μ => hf 59 μ (by decide)
  have hw58 := fun μ => hw 58 μ (by decide)
  have hw : ∀ μ, callF W0 59 513 [wkV (.inst kb fb) (strip [x1])] μ = some (.val (.str tw), μ) := fun μ => hw 59 μ (by decide)
  have h409 := l409 (n := 53) (μ := μS c1 d1 m' (ps.map pairV) (fin4 [] 0 (strip [x1]))) (kb := kb) (fb := fb) hd
  have h649 := l649 (n := 52) (μ := μS c1 d1 m' (ps.map pairV) (fin4 [] 0 (strip [x1]))) (kb := kb) (fb := fb) hd (hw58 _)
  have h414 := l414 (n := 52) (a := c1) (b := d1) (m := m') (met := ps.map pairV) (kb := kb) (fb := fb) hd
  have h654 := l654 (n := 53) (μ := μS c1 d1 m' (ps.map pairV) (finN (fin4 [] 0 (strip [x1])) (wst (strip [x1])))) (kb := kb) (fb := fb) hd
  rw [efn] at h409 h649 h414 h654
  have f1 : Mini.fits (ps.map pairV).length = true := fits_le (by rw [List.length_map]; omega)
  have f2 : Mini.fits ((ps.map pairV).length + ((dueP ps).map pairV).length) = true := fits_le (by rw [List.length_map, List.length_map]; omega)
  have h17 := due_dict (qs := dueP ps) (by omega)
  have hne : cmpop .NotEq (.dictS (foldP [] vis)) (.dictS (foldP [] (dueP ps))) = some false := by
    show (cmpEq (.dictS (foldP [] vis)) (.dictS (foldP [] (dueP ps)))).map not = _
    rw [tab_eq hvis hG]
    rfl
  have g := List.all_eq_true.mp fits_E _ hd
  simp only [fitsAll, Bool.and_eq_true] at g
  obtain ⟨g1, g2, g3, g4, g5, g6, g7⟩ := g
  exact ⟨_, law_road_1 (n := 59) hp h1 new_p1 o1 (by kernel_rfl) hb (mk_Lam _ _) cons_spec (hf _) f1 h5 f2 h17 (hscr 56 _) hne rfl h7 rfl fresh_new (mk_Sig _ _ _) h404 g1 h10 g2 rfl h11 g7 g3 h12 g4 (of_map cm_E hd) g3 h13 g5 (of_map sm_E hd) g3 h14 g6 ne_nil hadd (of_map ls_E hd) hadd (of_map ln_E hd) (ne_int _) h409 (hw _) h649 (ne_str _) (hf _) (ne_str _) h414 h654⟩
theorem law_2 {script : List Int} {a0 b0 a1 b1 : Int} (hp : callF W0 59 613 [.list (script.map .int), .int 0] [none, none, none, none, none] = some (.own (.list [.int a0, .int b0]), [none, none, none, none, none])) (h1 : callF W0 59 620 [.reg 0, .int 4] (muS a0 b0 0 [] none none) = some (.val (.int 1), muS a1 b1 0 [] none none)) :
    ∃ μ', callF W0 60 659 [.list (script.map .int)] [none, none, none, none, none] = some (.val (.bool true), μ') := by
  obtain ⟨v1, a2, b2, m1, o1⟩ := one_spec (n := 57) a1 b1 2 [] kindsL none none (by decide) (by decide)
  obtain ⟨v2, a3, b3, m2, o2⟩ := one_spec (n := 57) a2 b2 2 [] kindsL none none (by decide) (by decide)
  obtain ⟨kb, fb, c0, d0, m', ps, vis, G', hb, tx, hlen, hcn, hscr, hvis, hG⟩ := mid (ks := [(so "p1", v1), (so "p2", v2)]) (k := 2) (by omega) (by omega) rfl (fun p h => by
    simp only [List.mem_cons, List.not_mem_nil, or_false] at h
    rcases h with rfl | rfl
    · exact ⟨p_in 0 (by omega), kv7 m1⟩
    · exact ⟨p_in 1 (by omega), kv7 m2⟩) a3 b3
  obtain ⟨ρ5, h5⟩ := e5_all (C := callF W0 59) (μ := [some (.list [.int c0, .int d0]), some (.dictS [(so "many", .int m')]), some (.fn 99), none, none]) ps [] (.inl rfl) hcn
  have hda : ∀ p ∈ dueP ps, aloneC p.2 = true := fun p hp => (List.mem_filter.mp hp).2
  have hdl : (dueP ps).length ≤ 50 := Nat.le_trans (List.length_filter_le _ _) hlen
  obtain ⟨r1, c1, d1, _, _, t1⟩ := take_spec (n := 58) c0 d0 m' 4 (ps.map pairV) none none (by decide) (by decide)
  obtain ⟨x1, le1, g1, in1, get1⟩ := pick hG hda 0 r1
  obtain ⟨r2, c2, d2, _, _, t2⟩ := take_spec (n := 58) c1 d1 m' 4 (ps.map pairV) none none (by decide) (by decide)
  obtain ⟨x2, le2, g2, in2, get2⟩ := pick hG hda 1 r2
  have hx : ∀ x ∈ [x1, x2], x ≤ 3 := fun x h => by
    simp only [List.mem_cons, List.not_mem_nil, or_false] at h
    rcases h with rfl | rfl <;> assumption
  have hc : [x1, x2] ∈ allF := mem_allF hx (by simp) (by simp)
  have hD : Says (.dictS (foldP [] (dueP ps))) [x1, x2] := ⟨fun i hi h => by match i, hi, h with | 0, _, h => exact in1 h | 1, _, h => exact in2 h | _ + 2, hi, _ => exact absurd hi (by simp), fun i hi h => by match i, hi, h with | 0, _, h => exact get1 h | 1, _, h => exact get2 h | _ + 2, hi, _ => exact absurd hi (by simp)⟩
  have hF := says_same (tab_same hvis hG) hD
  obtain ⟨ρ7, h7⟩ := e7_2 t1 g1 t2 g2
  have hd := strip_E hc
  have h404 := l404 (n := 52) (a := c2) (b := d2) (m := m') (met := ps.map pairV) hc hF (hscr 55 _)
  have h11 := l_e11 (n := 59) (μ := μS c2 d2 m' (ps.map pairV) (fin4 [] 0 [x1, x2])) hc hD
  rw [of_map s_splits hc, of_map s_fin hc] at h404
  rw [of_map s_want hc, of_map s_fin hc] at h11
  obtain ⟨ρ11, h11⟩ := h11
  have ep : psV [x1, x2] = psV (strip [x1, x2]) := of_map s_ps hc
  have efn : ∀ B, fnV (strip [x1, x2]) B = fnV [x1, x2] B := fun B => by unfold fnV; rw [ep]
  have hadd : binop .Add (.list (strV (strip [x1, x2]))) (.list (psV [x1, x2])) = some (.own (.list (strV (strip [x1, x2]) ++ psV (strip [x1, x2])))) := by rw [ep]; exact of_map ad_E hd
  obtain ⟨ρ10, h10⟩ := l_e10 (n := 59) (μ := μS c2 d2 m' (ps.map pairV) (fin4 [] 0 (strip [x1, x2]))) hd
  obtain ⟨ρ12, h12⟩ := l_e12 (n := 59) (μ := μS c2 d2 m' (ps.map pairV) (fin4 [] 0 (strip [x1, x2]))) hd
  obtain ⟨ρ13, h13⟩ := l_e13 (n := 59) (μ := μS c2 d2 m' (ps.map pairV) (fin4 [] 0 (strip [x1, x2]))) hd
  obtain ⟨ρ14, h14⟩ := l_e14 (n := 59) (μ := μS c2 d2 m' (ps.map pairV) (fin4 [] 0 (strip [x1, x2]))) hd
  obtain ⟨_, _, tf, _, _, hf⟩ := tx_fn (c := [x1, x2]) tx (by omega) (by omega) (by omega) (by simp)
  obtain ⟨_, _, tw, _, _, hw⟩ := tx_worker (c := strip [x1, x2]) tx (by omega) (by omega) (by omega) (by rw [strip_len]; simp) (strip_le hx)
  have hf : ∀ μ, callF W0 59 513 [fnV [x1, x2] (.inst kb fb)] μ = some (.val (.str tf), μ) := fun μ => hf 59 μ (by decide)
  have hw58 := fun μ => hw 58 μ (by decide)
  have hw : ∀ μ, callF W0 59 513 [wkV (.inst kb fb) (strip [x1, x2])] μ = some (.val (.str tw), μ) := fun μ => hw 59 μ (by decide)
  have h409 := l409 (n := 53) (μ := μS c2 d2 m' (ps.map pairV) (fin4 [] 0 (strip [x1, x2]))) (kb := kb) (fb := fb) hd
  have h649 := l649 (n := 52) (μ := μS c2 d2 m' (ps.map pairV) (fin4 [] 0 (strip [x1, x2]))) (kb := kb) (fb := fb) hd (hw58 _)
  have h414 := l414 (n := 52) (a := c2) (b := d2) (m := m') (met := ps.map pairV) (kb := kb) (fb := fb) hd
  have h654 := l654 (n := 53) (μ := μS c2 d2 m' (ps.map pairV) (finN (fin4 [] 0 (strip [x1, x2])) (wst (strip [x1, x2])))) (kb := kb) (fb := fb) hd
  rw [efn] at h409 h649 h414 h654
  have f1 : Mini.fits (ps.map pairV).length = true := fits_le (by rw [List.length_map]; omega)
  have f2 : Mini.fits ((ps.map pairV).length + ((dueP ps).map pairV).length) = true := fits_le (by rw [List.length_map, List.length_map]; omega)
  have h17 := due_dict (qs := dueP ps) (by omega)
  have hne : cmpop .NotEq (.dictS (foldP [] vis)) (.dictS (foldP [] (dueP ps))) = some false := by
    show (cmpEq (.dictS (foldP [] vis)) (.dictS (foldP [] (dueP ps)))).map not = _
    rw [tab_eq hvis hG]
    rfl
  have g := List.all_eq_true.mp fits_E _ hd
  simp only [fitsAll, Bool.and_eq_true] at g
  obtain ⟨g1, g2, g3, g4, g5, g6, g7⟩ := g
  exact ⟨_, law_road_2 (n := 59) hp h1 new_p1 new_p2 o1 o2 (by kernel_rfl) hb (mk_Lam _ _) cons_spec (hf _) f1 h5 f2 h17 (hscr 56 _) hne rfl h7 rfl fresh_new (mk_Sig _ _ _) h404 g1 h10 g2 rfl h11 g7 g3 h12 g4 (of_map cm_E hd) g3 h13 g5 (of_map sm_E hd) g3 h14 g6 ne_nil hadd (of_map ls_E hd) hadd (of_map ln_E hd) (ne_int _) h409 (hw _) h649 (ne_str _) (hf _) (ne_str _) h414 h654⟩
theorem law_3 {script : List Int} {a0 b0 a1 b1 : Int} (hp : callF W0 59 613 [.list (script.map .int), .int 0] [none, none, none, none, none] = some (.own (.list [.int a0, .int b0]), [none, none, none, none, none])) (h1 : callF W0 59 620 [.reg 0, .int 4] (muS a0 b0 0 [] none none) = some (.val (.int 2), muS a1 b1 0 [] none none)) :
    ∃ μ', callF W0 60 659 [.list (script.map .int)] [none, none, none, none, none] = some (.val (.bool true), μ') := by
  obtain ⟨v1, a2, b2, m1, o1⟩ := one_spec (n := 57) a1 b1 3 [] kindsL none none (by decide) (by decide)
  obtain ⟨v2, a3, b3, m2, o2⟩ := one_spec (n := 57) a2 b2 3 [] kindsL none none (by decide) (by decide)
  obtain ⟨v3, a4, b4, m3, o3⟩ := one_spec (n := 57) a3 b3 3 [] kindsL none none (by decide) (by decide)
  obtain ⟨kb, fb, c0, d0, m', ps, vis, G', hb, tx, hlen, hcn, hscr, hvis, hG⟩ := mid (ks := [(so "p1", v1), (so "p2", v2), (so "p3", v3)]) (k := 3) (by omega) (by omega) rfl (fun p h => by
    simp only [List.mem_cons, List.not_mem_nil, or_false] at h
    rcases h with rfl | rfl | rfl
    · exact ⟨p_in 0 (by omega), kv7 m1⟩
    · exact ⟨p_in 1 (by omega), kv7 m2⟩
    · exact ⟨p_in 2 (by omega), kv7 m3⟩) a4 b4
  obtain ⟨ρ5, h5⟩ := e5_all (C := callF W0 59) (μ := [some (.list [.int c0, .int d0]), some (.dictS [(so "many", .int m')]), some (.fn 99), none, none]) ps [] (.inl rfl) hcn
  have hda : ∀ p ∈ dueP ps, aloneC p.2 = true := fun p hp => (List.mem_filter.mp hp).2
  have hdl : (dueP ps).length ≤ 50 := Nat.le_trans (List.length_filter_le _ _) hlen
  obtain ⟨r1, c1, d1, _, _, t1⟩ := take_spec (n := 58) c0 d0 m' 4 (ps.map pairV) none none (by decide) (by decide)
  obtain ⟨x1, le1, g1, in1, get1⟩ := pick hG hda 0 r1
  obtain ⟨r2, c2, d2, _, _, t2⟩ := take_spec (n := 58) c1 d1 m' 4 (ps.map pairV) none none (by decide) (by decide)
  obtain ⟨x2, le2, g2, in2, get2⟩ := pick hG hda 1 r2
  obtain ⟨r3, c3, d3, _, _, t3⟩ := take_spec (n := 58) c2 d2 m' 4 (ps.map pairV) none none (by decide) (by decide)
  obtain ⟨x3, le3, g3, in3, get3⟩ := pick hG hda 2 r3
  have hx : ∀ x ∈ [x1, x2, x3], x ≤ 3 := fun x h => by
    simp only [List.mem_cons, List.not_mem_nil, or_false] at h
    rcases h with rfl | rfl | rfl <;> assumption
  have hc : [x1, x2, x3] ∈ allF := mem_allF hx (by simp) (by simp)
  have hD : Says (.dictS (foldP [] (dueP ps))) [x1, x2, x3] := ⟨fun i hi h => by match i, hi, h with | 0, _, h => exact in1 h | 1, _, h => exact in2 h | 2, _, h => exact in3 h | _ + 3, hi, _ => exact absurd hi (by simp), fun i hi h => by match i, hi, h with | 0, _, h => exact get1 h | 1, _, h => exact get2 h | 2, _, h => exact get3 h | _ + 3, hi, _ => exact absurd hi (by simp)⟩
  have hF := says_same (tab_same hvis hG) hD
  obtain ⟨ρ7, h7⟩ := e7_3 t1 g1 t2 g2 t3 g3
  have hd := strip_E hc
  have h404 := l404 (n := 52) (a := c3) (b := d3) (m := m') (met := ps.map pairV) hc hF (hscr 55 _)
  have h11 := l_e11 (n := 59) (μ := μS c3 d3 m' (ps.map pairV) (fin4 [] 0 [x1, x2, x3])) hc hD
  rw [of_map s_splits hc, of_map s_fin hc] at h404
  rw [of_map s_want hc, of_map s_fin hc] at h11
  obtain ⟨ρ11, h11⟩ := h11
  have ep : psV [x1, x2, x3] = psV (strip [x1, x2, x3]) := of_map s_ps hc
  have efn : ∀ B, fnV (strip [x1, x2, x3]) B = fnV [x1, x2, x3] B := fun B => by unfold fnV; rw [ep]
  have hadd : binop .Add (.list (strV (strip [x1, x2, x3]))) (.list (psV [x1, x2, x3])) = some (.own (.list (strV (strip [x1, x2, x3]) ++ psV (strip [x1, x2, x3])))) := by rw [ep]; exact of_map ad_E hd
  obtain ⟨ρ10, h10⟩ := l_e10 (n := 59) (μ := μS c3 d3 m' (ps.map pairV) (fin4 [] 0 (strip [x1, x2, x3]))) hd
  obtain ⟨ρ12, h12⟩ := l_e12 (n := 59) (μ := μS c3 d3 m' (ps.map pairV) (fin4 [] 0 (strip [x1, x2, x3]))) hd
  obtain ⟨ρ13, h13⟩ := l_e13 (n := 59) (μ := μS c3 d3 m' (ps.map pairV) (fin4 [] 0 (strip [x1, x2, x3]))) hd
  obtain ⟨ρ14, h14⟩ := l_e14 (n := 59) (μ := μS c3 d3 m' (ps.map pairV) (fin4 [] 0 (strip [x1, x2, x3]))) hd
  obtain ⟨_, _, tf, _, _, hf⟩ := tx_fn (c := [x1, x2, x3]) tx (by omega) (by omega) (by omega) (by simp)
  obtain ⟨_, _, tw, _, _, hw⟩ := tx_worker (c := strip [x1, x2, x3]) tx (by omega) (by omega) (by omega) (by rw [strip_len]; simp) (strip_le hx)
  have hf : ∀ μ, callF W0 59 513 [fnV [x1, x2, x3] (.inst kb fb)] μ = some (.val (.str tf), μ) := fun μ => hf 59 μ (by decide)
  have hw58 := fun μ => hw 58 μ (by decide)
  have hw : ∀ μ, callF W0 59 513 [wkV (.inst kb fb) (strip [x1, x2, x3])] μ = some (.val (.str tw), μ) := fun μ => hw 59 μ (by decide)
  have h409 := l409 (n := 53) (μ := μS c3 d3 m' (ps.map pairV) (fin4 [] 0 (strip [x1, x2, x3]))) (kb := kb) (fb := fb) hd
  have h649 := l649 (n := 52) (μ := μS c3 d3 m' (ps.map pairV) (fin4 [] 0 (strip [x1, x2, x3]))) (kb := kb) (fb := fb) hd (hw58 _)
  have h414 := l414 (n := 52) (a := c3) (b := d3) (m := m') (met := ps.map pairV) (kb := kb) (fb := fb) hd
  have h654 := l654 (n := 53) (μ := μS c3 d3 m' (ps.map pairV) (finN (fin4 [] 0 (strip [x1, x2, x3])) (wst (strip [x1, x2, x3])))) (kb := kb) (fb := fb) hd
  rw [efn] at h409 h649 h414 h654
  have f1 : Mini.fits (ps.map pairV).length = true := fits_le (by rw [List.length_map]; omega)
  have f2 : Mini.fits ((ps.map pairV).length + ((dueP ps).map pairV).length) = true := fits_le (by rw [List.length_map, List.length_map]; omega)
  have h17 := due_dict (qs := dueP ps) (by omega)
  have hne : cmpop .NotEq (.dictS (foldP [] vis)) (.dictS (foldP [] (dueP ps))) = some false := by
    show (cmpEq (.dictS (foldP [] vis)) (.dictS (foldP [] (dueP ps)))).map not = _
    rw [tab_eq hvis hG]
    rfl
  have g := List.all_eq_true.mp fits_E _ hd
  simp only [fitsAll, Bool.and_eq_true] at g
  obtain ⟨g1, g2, g3, g4, g5, g6, g7⟩ := g
  exact ⟨_, law_road_3 (n := 59) hp h1 new_p1 new_p2 new_p3 o1 o2 o3 (by kernel_rfl) hb (mk_Lam _ _) cons_spec (hf _) f1 h5 f2 h17 (hscr 56 _) hne rfl h7 rfl fresh_new (mk_Sig _ _ _) h404 g1 h10 g2 rfl h11 g7 g3 h12 g4 (of_map cm_E hd) g3 h13 g5 (of_map sm_E hd) g3 h14 g6 ne_nil hadd (of_map ls_E hd) hadd (of_map ln_E hd) (ne_int _) h409 (hw _) h649 (ne_str _) (hf _) (ne_str _) h414 h654⟩
theorem law_4 {script : List Int} {a0 b0 a1 b1 : Int} (hp : callF W0 59 613 [.list (script.map .int), .int 0] [none, none, none, none, none] = some (.own (.list [.int a0, .int b0]), [none, none, none, none, none])) (h1 : callF W0 59 620 [.reg 0, .int 4] (muS a0 b0 0 [] none none) = some (.val (.int 3), muS a1 b1 0 [] none none)) :
    ∃ μ', callF W0 60 659 [.list (script.map .int)] [none, none, none, none, none] = some (.val (.bool true), μ') := by
  obtain ⟨v1, a2, b2, m1, o1⟩ := one_spec (n := 57) a1 b1 4 [] kindsL none none (by decide) (by decide)
  obtain ⟨v2, a3, b3, m2, o2⟩ := one_spec (n := 57) a2 b2 4 [] kindsL none none (by decide) (by decide)
  obtain ⟨v3, a4, b4, m3, o3⟩ := one_spec (n := 57) a3 b3 4 [] kindsL none none (by decide) (by decide)
  obtain ⟨v4, a5, b5, m4, o4⟩ := one_spec (n := 57) a4 b4 4 [] kindsL none none (by decide) (by decide)
  obtain ⟨kb, fb, c0, d0, m', ps, vis, G', hb, tx, hlen, hcn, hscr, hvis, hG⟩ := mid (ks := [(so "p1", v1), (so "p2", v2), (so "p3", v3), (so "p4", v4)]) (k := 4) (by omega) (by omega) rfl (fun p h => by
    simp only [List.mem_cons, List.not_mem_nil, or_false] at h
    rcases h with rfl | rfl | rfl | rfl
    · exact ⟨p_in 0 (by omega), kv7 m1⟩
    · exact ⟨p_in 1 (by omega), kv7 m2⟩
    · exact ⟨p_in 2 (by omega), kv7 m3⟩
    · exact ⟨p_in 3 (by omega), kv7 m4⟩) a5 b5
  obtain ⟨ρ5, h5⟩ := e5_all (C := callF W0 59) (μ := [some (.list [.int c0, .int d0]), some (.dictS [(so "many", .int m')]), some (.fn 99), none, none]) ps [] (.inl rfl) hcn
  have hda : ∀ p ∈ dueP ps, aloneC p.2 = true := fun p hp => (List.mem_filter.mp hp).2
  have hdl : (dueP ps).length ≤ 50 := Nat.le_trans (List.length_filter_le _ _) hlen
  obtain ⟨r1, c1, d1, _, _, t1⟩ := take_spec (n := 58) c0 d0 m' 4 (ps.map pairV) none none (by decide) (by decide)
  obtain ⟨x1, le1, g1, in1, get1⟩ := pick hG hda 0 r1
  obtain ⟨r2, c2, d2, _, _, t2⟩ := take_spec (n := 58) c1 d1 m' 4 (ps.map pairV) none none (by decide) (by decide)
  obtain ⟨x2, le2, g2, in2, get2⟩ := pick hG hda 1 r2
  obtain ⟨r3, c3, d3, _, _, t3⟩ := take_spec (n := 58) c2 d2 m' 4 (ps.map pairV) none none (by decide) (by decide)
  obtain ⟨x3, le3, g3, in3, get3⟩ := pick hG hda 2 r3
  obtain ⟨r4, c4, d4, _, _, t4⟩ := take_spec (n := 58) c3 d3 m' 4 (ps.map pairV) none none (by decide) (by decide)
  obtain ⟨x4, le4, g4, in4, get4⟩ := pick hG hda 3 r4
  have hx : ∀ x ∈ [x1, x2, x3, x4], x ≤ 3 := fun x h => by
    simp only [List.mem_cons, List.not_mem_nil, or_false] at h
    rcases h with rfl | rfl | rfl | rfl <;> assumption
  have hc : [x1, x2, x3, x4] ∈ allF := mem_allF hx (by simp) (by simp)
  have hD : Says (.dictS (foldP [] (dueP ps))) [x1, x2, x3, x4] := ⟨fun i hi h => by match i, hi, h with | 0, _, h => exact in1 h | 1, _, h => exact in2 h | 2, _, h => exact in3 h | 3, _, h => exact in4 h | _ + 4, hi, _ => exact absurd hi (by simp), fun i hi h => by match i, hi, h with | 0, _, h => exact get1 h | 1, _, h => exact get2 h | 2, _, h => exact get3 h | 3, _, h => exact get4 h | _ + 4, hi, _ => exact absurd hi (by simp)⟩
  have hF := says_same (tab_same hvis hG) hD
  obtain ⟨ρ7, h7⟩ := e7_4 t1 g1 t2 g2 t3 g3 t4 g4
  have hd := strip_E hc
  have h404 := l404 (n := 52) (a := c4) (b := d4) (m := m') (met := ps.map pairV) hc hF (hscr 55 _)
  have h11 := l_e11 (n := 59) (μ := μS c4 d4 m' (ps.map pairV) (fin4 [] 0 [x1, x2, x3, x4])) hc hD
  rw [of_map s_splits hc, of_map s_fin hc] at h404
  rw [of_map s_want hc, of_map s_fin hc] at h11
  obtain ⟨ρ11, h11⟩ := h11
  have ep : psV [x1, x2, x3, x4] = psV (strip [x1, x2, x3, x4]) := of_map s_ps hc
  have efn : ∀ B, fnV (strip [x1, x2, x3, x4]) B = fnV [x1, x2, x3, x4] B := fun B => by unfold fnV; rw [ep]
  have hadd : binop .Add (.list (strV (strip [x1, x2, x3, x4]))) (.list (psV [x1, x2, x3, x4])) = some (.own (.list (strV (strip [x1, x2, x3, x4]) ++ psV (strip [x1, x2, x3, x4])))) := by rw [ep]; exact of_map ad_E hd
  obtain ⟨ρ10, h10⟩ := l_e10 (n := 59) (μ := μS c4 d4 m' (ps.map pairV) (fin4 [] 0 (strip [x1, x2, x3, x4]))) hd
  obtain ⟨ρ12, h12⟩ := l_e12 (n := 59) (μ := μS c4 d4 m' (ps.map pairV) (fin4 [] 0 (strip [x1, x2, x3, x4]))) hd
  obtain ⟨ρ13, h13⟩ := l_e13 (n := 59) (μ := μS c4 d4 m' (ps.map pairV) (fin4 [] 0 (strip [x1, x2, x3, x4]))) hd
  obtain ⟨ρ14, h14⟩ := l_e14 (n := 59) (μ := μS c4 d4 m' (ps.map pairV) (fin4 [] 0 (strip [x1, x2, x3, x4]))) hd
  obtain ⟨_, _, tf, _, _, hf⟩ := tx_fn (c := [x1, x2, x3, x4]) tx (by omega) (by omega) (by omega) (by simp)
  obtain ⟨_, _, tw, _, _, hw⟩ := tx_worker (c := strip [x1, x2, x3, x4]) tx (by omega) (by omega) (by omega) (by rw [strip_len]; simp) (strip_le hx)
  have hf : ∀ μ, callF W0 59 513 [fnV [x1, x2, x3, x4] (.inst kb fb)] μ = some (.val (.str tf), μ) := fun μ => hf 59 μ (by decide)
  have hw58 := fun μ => hw 58 μ (by decide)
  have hw : ∀ μ, callF W0 59 513 [wkV (.inst kb fb) (strip [x1, x2, x3, x4])] μ = some (.val (.str tw), μ) := fun μ => hw 59 μ (by decide)
  have h409 := l409 (n := 53) (μ := μS c4 d4 m' (ps.map pairV) (fin4 [] 0 (strip [x1, x2, x3, x4]))) (kb := kb) (fb := fb) hd
  have h649 := l649 (n := 52) (μ := μS c4 d4 m' (ps.map pairV) (fin4 [] 0 (strip [x1, x2, x3, x4]))) (kb := kb) (fb := fb) hd (hw58 _)
  have h414 := l414 (n := 52) (a := c4) (b := d4) (m := m') (met := ps.map pairV) (kb := kb) (fb := fb) hd
  have h654 := l654 (n := 53) (μ := μS c4 d4 m' (ps.map pairV) (finN (fin4 [] 0 (strip [x1, x2, x3, x4])) (wst (strip [x1, x2, x3, x4])))) (kb := kb) (fb := fb) hd
  rw [efn] at h409 h649 h414 h654
  have f1 : Mini.fits (ps.map pairV).length = true := fits_le (by rw [List.length_map]; omega)
  have f2 : Mini.fits ((ps.map pairV).length + ((dueP ps).map pairV).length) = true := fits_le (by rw [List.length_map, List.length_map]; omega)
  have h17 := due_dict (qs := dueP ps) (by omega)
  have hne : cmpop .NotEq (.dictS (foldP [] vis)) (.dictS (foldP [] (dueP ps))) = some false := by
    show (cmpEq (.dictS (foldP [] vis)) (.dictS (foldP [] (dueP ps)))).map not = _
    rw [tab_eq hvis hG]
    rfl
  have g := List.all_eq_true.mp fits_E _ hd
  simp only [fitsAll, Bool.and_eq_true] at g
  obtain ⟨g1, g2, g3, g4, g5, g6, g7⟩ := g
  exact ⟨_, law_road_4 (n := 59) hp h1 new_p1 new_p2 new_p3 new_p4 o1 o2 o3 o4 (by kernel_rfl) hb (mk_Lam _ _) cons_spec (hf _) f1 h5 f2 h17 (hscr 56 _) hne rfl h7 rfl fresh_new (mk_Sig _ _ _) h404 g1 h10 g2 rfl h11 g7 g3 h12 g4 (of_map cm_E hd) g3 h13 g5 (of_map sm_E hd) g3 h14 g6 ne_nil hadd (of_map ls_E hd) hadd (of_map ln_E hd) (ne_int _) h409 (hw _) h649 (ne_str _) (hf _) (ne_str _) h414 h654⟩
theorem law_all {script : List Int} (hl : script.length ≤ 63) : ∃ μ', callF W0 60 659 [.list (script.map .int)] [none, none, none, none, none] = some (.val (.bool true), μ') := by
  obtain ⟨a0, b0, hp⟩ := pool_spec hl 58 [none, none, none, none, none]
  obtain ⟨r, a1, b1, r0, r1, h1⟩ := take_spec (n := 58) a0 b0 0 4 [] none none (by decide) (by decide)
  rcases (show r = 0 ∨ r = 1 ∨ r = 2 ∨ r = 3 by omega) with rfl | rfl | rfl | rfl
  · exact law_1 hp h1
  · exact law_2 hp h1
  · exact law_3 hp h1
  · exact law_4 hp h1
end Mini
namespace Mini
noncomputable def isFun : ScopeKind → Bool
  | .function => true
  | _ => false
noncomputable def isLC : Option NameKind → Bool
  | some .local => true
  | some .cell => true
  | _ => false
noncomputable def scOK (st : Stmt) : Bool := !(scopeOf st).isCoroutine && (!(scopeOf st).isGenerator && (isFun (scopeOf st).kind && (paramsOf st).args.all fun p => isLC ((scopeOf st).names.lookup p.arg)))
theorem isFun_eq {k : ScopeKind} (h : isFun k = true) : k = .function := by cases k <;> first | rfl | cases h
theorem isLC_eq {k : Option NameKind} (h : isLC k = true) : k = some .local ∨ k = some .cell := by
  unfold isLC at h
  split at h
  · exact .inl rfl
  · exact .inr rfl
  · cases h
noncomputable def fdAt (K : Frag) (a : Addr) : Option FuncData := match K.lookup a with
  | some o => match o.data with
    | .func fd => some fd
    | _ => none
  | none => none
noncomputable def fixFd (st : Stmt) (fd : FuncData) : FuncData := { fd with body := .stmts (bodyOf st), scope := scopeOf st, globals := mainGlobals, builtins := builtinsNs, closure := [] }
noncomputable def fnObj (fd : FuncData) : Obj := ⟨.type "function", none, .func fd, #[]⟩
noncomputable def codeOK (K : Frag) (a : Addr) : Bool := match fdAt K a with
  | some fd => codeIn K fd.code fd.qualname
  | none => false
noncomputable def Binds (K : Frag) (a : Addr) (st : Stmt) : Prop := ∀ fd, fdAt K a = some fd → ∀ (s : Shared) (us : List Value), K.In s.heap → us.length = (paramsOf st).args.length → BindsTo s fd ⟨us, []⟩ (((paramsOf st).args.map (·.arg)).zip us)
theorem fnOK_of {B : Bs} {K : Frag} (hK : B.K = K) {a : Addr} {st : Stmt} (h1 : K.lookup a = (fdAt K a).map fun fd => fnObj (fixFd st fd)) (h2 : codeOK K a = true) (h3 : scOK st = true) (hb : Binds K a st) : FnOK B a st := by
  subst hK
  unfold codeOK at h2
  cases hf : fdAt B.K a with
  | none => rw [hf] at h2; cases h2
  | some fd =>
    rw [hf] at h1 h2
    have h1 : B.K.lookup a = some (fnObj (fixFd st fd)) := h1
    have e : fdAt B.K a = some (fixFd st fd) := by unfold fdAt; rw [h1]; rfl
    have e2 : fd = fixFd st fd := Option.some.inj (hf.symm.trans e)
    unfold scOK at h3
    simp only [Bool.and_eq_true, Bool.not_eq_true'] at h3
    rw [e2] at h2
    exact ⟨fixFd st fd, h1, rfl, rfl, rfl, rfl, rfl, h2, h3.1, h3.2.1, isFun_eq h3.2.2.1, fun p hp => isLC_eq (List.all_eq_true.mp h3.2.2.2 p hp), hb _ e⟩
noncomputable def fnTab : List (Addr × Stmt) := defTab ++ clsTab.map fun p => (p.2.1, p.2.2)
noncomputable def ar (p : Addr × Stmt) : Nat := (paramsOf p.2).args.length
noncomputable def tabN (k : Nat) : List (Addr × Stmt) := fnTab.filter fun p => Nat.beq (ar p) k && !Nat.beq p.1 585
section
variable {P : Params}
theorem fn_look : fnTab.map (fun p => (Mine.KF P).lookup p.1) = fnTab.map (fun p => (fdAt (Mine.KF P) p.1).map fun fd => fnObj (fixFd p.2 fd)) := by kernel_rfl
theorem fn_code : fnTab.all (fun p => codeOK (Mine.KF P) p.1) = true := by kernel_rfl
theorem fn_sc : fnTab.all (fun p => scOK p.2) = true := by kernel_rfl
theorem fn_ar : fnTab.all (fun p => [0, 1, 2, 3, 4, 5, 9].contains (ar p)) = true := by kernel_rfl
noncomputable def bdL (K : Frag) (us : List Value) (p : Addr × Stmt) : Option (Sem (List (Str × Value))) := (fdAt K p.1).map fun fd => bindArgs fd ⟨us, []⟩
noncomputable def bdR (us : List Value) (p : Addr × Stmt) : Option (Sem (List (Str × Value))) := some (pure (((paramsOf p.2).args.map (·.arg)).zip us))
theorem bd0 : (tabN 0).map (bdL (Mine.KF P) []) = (tabN 0).map (bdR []) := by kernel_rfl
theorem bd1 (a : Value) : (tabN 1).map (bdL (Mine.KF P) [a]) = (tabN 1).map (bdR [a]) := by kernel_rfl
theorem bd2 (a b : Value) : (tabN 2).map (bdL (Mine.KF P) [a, b]) = (tabN 2).map (bdR [a, b]) := by kernel_rfl
theorem bd3 (a b c : Value) : (tabN 3).map (bdL (Mine.KF P) [a, b, c]) = (tabN 3).map (bdR [a, b, c]) := by kernel_rfl
theorem bd4 (a b c d : Value) : (tabN 4).map (bdL (Mine.KF P) [a, b, c, d]) = (tabN 4).map (bdR [a, b, c, d]) := by kernel_rfl
theorem bd5 (a b c d e : Value) : (tabN 5).map (bdL (Mine.KF P) [a, b, c, d, e]) = (tabN 5).map (bdR [a, b, c, d, e]) := by kernel_rfl
theorem bd9 (a b c d e f g h i : Value) : (tabN 9).map (bdL (Mine.KF P) [a, b, c, d, e, f, g, h, i]) = (tabN 9).map (bdR [a, b, c, d, e, f, g, h, i]) := by kernel_rfl
theorem cons_of {α : Type} {us : List α} {k : Nat} (h : us.length = k + 1) : ∃ a r, us = a :: r ∧ r.length = k := by
  cases us with
  | nil => exact nomatch h
  | cons a r => exact ⟨a, r, rfl, Nat.succ.inj h⟩
theorem nil_of {α : Type} {us : List α} (h : us.length = 0) : us = [] := List.eq_nil_of_length_eq_zero h
noncomputable def BdK (P : Params) (k : Nat) : Prop := ∀ us : List Value, us.length = k → (tabN k).map (bdL (Mine.KF P) us) = (tabN k).map (bdR us)
theorem bk0 : BdK P 0 := fun us h0 => by
  rw [nil_of h0]
  exact bd0
theorem bk1 : BdK P 1 := fun us h0 => by
  obtain ⟨a0, u0, e0, h1⟩ := cons_of h0
  rw [e0, nil_of h1]
  exact bd1 a0
theorem bk2 : BdK P 2 := fun us h0 => by
  obtain ⟨a0, u0, e0, h1⟩ := cons_of h0
  obtain ⟨a1, u1, e1, h2⟩ := cons_of h1
  rw [e0, e1, nil_of h2]
  exact bd2 a0 a1
theorem bk3 : BdK P 3 := fun us h0 => by
  obtain ⟨a0, u0, e0, h1⟩ := cons_of h0
  obtain ⟨a1, u1, e1, h2⟩ := cons_of h1
  obtain ⟨a2, u2, e2, h3⟩ := cons_of h2
  rw [e0, e1, e2, nil_of h3]
  exact bd3 a0 a1 a2
theorem bk4 : BdK P 4 := fun us h0 => by
  obtain ⟨a0, u0, e0, h1⟩ := cons_of h0
  obtain ⟨a1, u1, e1, h2⟩ := cons_of h1
  obtain ⟨a2, u2, e2, h3⟩ := cons_of h2
  obtain ⟨a3, u3, e3, h4⟩ := cons_of h3
  rw [e0, e1, e2, e3, nil_of h4]
  exact bd4 a0 a1 a2 a3
theorem bk5 : BdK P 5 := fun us h0 => by
  obtain ⟨a0, u0, e0, h1⟩ := cons_of h0
  obtain ⟨a1, u1, e1, h2⟩ := cons_of h1
  obtain ⟨a2, u2, e2, h3⟩ := cons_of h2
  obtain ⟨a3, u3, e3, h4⟩ := cons_of h3
  obtain ⟨a4, u4, e4, h5⟩ := cons_of h4
  rw [e0, e1, e2, e3, e4, nil_of h5]
  exact bd5 a0 a1 a2 a3 a4
theorem bk9 : BdK P 9 := fun us h0 => by
  obtain ⟨a0, u0, e0, h1⟩ := cons_of h0
  obtain ⟨a1, u1, e1, h2⟩ := cons_of h1
  obtain ⟨a2, u2, e2, h3⟩ := cons_of h2
  obtain ⟨a3, u3, e3, h4⟩ := cons_of h3
  obtain ⟨a4, u4, e4, h5⟩ := cons_of h4
  obtain ⟨a5, u5, e5, h6⟩ := cons_of h5
  obtain ⟨a6, u6, e6, h7⟩ := cons_of h6
  obtain ⟨a7, u7, e7, h8⟩ := cons_of h7
  obtain ⟨a8, u8, e8, h9⟩ := cons_of h8
  rw [e0, e1, e2, e3, e4, e5, e6, e7, e8, nil_of h9]
  exact bd9 a0 a1 a2 a3 a4 a5 a6 a7 a8
theorem bd_all {k : Nat} (hk : k ∈ [0, 1, 2, 3, 4, 5, 9]) : BdK P k := by
  rcases List.mem_cons.mp hk with rfl | hk
  · exact bk0
  rcases List.mem_cons.mp hk with rfl | hk
  · exact bk1
  rcases List.mem_cons.mp hk with rfl | hk
  · exact bk2
  rcases List.mem_cons.mp hk with rfl | hk
  · exact bk3
  rcases List.mem_cons.mp hk with rfl | hk
  · exact bk4
  rcases List.mem_cons.mp hk with rfl | hk
  · exact bk5
  rw [List.mem_singleton.mp hk]
  exact bk9
theorem binds_585 : Binds (Mine.KF P) 585 (methAt 41 0) := fun fd e s us X h => by
  have e0 : fdAt (Mine.KF P) 585 = some (Mine.fnAt (Mine.methAt 41 0) (so "Fresh.__init__") (.ref 578) (.str (so "lazycore.fresh") 954) (.ref 584)) := by kernel_rfl
  have := Option.some.inj (e.symm.trans e0)
  subst this
  obtain ⟨a, u0, e1, h1⟩ := cons_of (k := 1) h
  obtain ⟨b, u1, e2, h2⟩ := cons_of (k := 0) h1
  rw [e1, e2, nil_of h2]
  exact BindsTo.of_defaults (T := 578) rfl (X 578 _ (show (Mine.KF P).lookup 578 = some (Mine.O578 P) by kernel_rfl)) rfl rfl rfl
theorem fn_585 : fnTab.filter (fun p => Nat.beq p.1 585) = [(585, methAt 41 0)] := by kernel_rfl
theorem fn_ok {B : Bs} (hK : B.K = Mine.KF P) {p : Addr × Stmt} (hp : p ∈ fnTab) : FnOK B p.1 p.2 := by
  refine fnOK_of hK (List.map_inj_left.mp fn_look p hp) (List.all_eq_true.mp fn_code p hp) (List.all_eq_true.mp fn_sc p hp) ?_
  cases h : Nat.beq p.1 585 with
  | true =>
    have : p ∈ fnTab.filter fun p => Nat.beq p.1 585 := List.mem_filter.mpr ⟨hp, h⟩
    rw [fn_585, List.mem_singleton] at this
    subst this
    exact binds_585
  | false =>
    intro fd e s us X hl
    have ht : p ∈ tabN (ar p) := List.mem_filter.mpr ⟨hp, by rw [h, Bool.not_false, Bool.and_true]; exact Nat.beq_refl _⟩
    have hb := List.map_inj_left.mp (bd_all (P := P) (List.contains_iff_mem.mp (List.all_eq_true.mp fn_ar p hp)) us hl) p ht
    unfold bdL bdR at hb
    rw [e] at hb
    exact BindsTo.of_eq (Option.some.inj hb)
end
end Mini
namespace Mini
noncomputable def glSays (K : Frag) (n : Str) : V → Bool
  | .stat a => nsIn K mainGlobals n == some (some (.ref a))
  | .fn k => nsIn K mainGlobals n == some none && (bootBuiltins n == some (primVal k) && !(n == so "__name__"))
  | .str s => match nsIn K mainGlobals n with
    | some (some (.str t _)) => t == s
    | _ => false
  | .tuple _ => n == so "KEY_WORDS" && nsIn K mainGlobals n == some (some (.ref 448))
  | _ => false
section
variable {P : Params}
theorem gl_says : glTab.all (fun p => glSays (Mine.KF P) p.1 p.2) = true := by kernel_rfl
theorem k_isi : kIsi (Mine.KF P) = true := by kernel_rfl
theorem k_attr : kAttr (Mine.KF P) = true := by kernel_rfl
theorem k_meth : kMeth (Mine.KF P) = true := by kernel_rfl
theorem k_set : kSet (Mine.KF P) = true := by kernel_rfl
theorem k_fn : defTab.all (fun p => keepIn (Mine.KF P) (.ref p.1)) = true := by kernel_rfl
noncomputable def clsSays (K : Frag) (C f : Addr) (st : Stmt) : Bool := makesIn K C && (findIn K (.ref C) "__init__" == some (some (.ref f)) && (typeIn K (.ref f) == some (.type "function") && (keepIn K (.ref C) && (match (scopeOf st).names.lookup (so "self") with | some .local => true | _ => false))))
theorem k_cls : clsTab.all (fun p => clsSays (Mine.KF P) p.1 p.2.1 p.2.2) = true := by kernel_rfl
theorem kw_obj : (Mine.KF P).lookup 448 = some ⟨.type "tuple", none, .seq (List.toArray [.str (so "int") 778, .str (so "char") 779, .str (so "app") 780, .str (so "lam") 781, .str (so "let") 782, .str (so "letrec") 783, .str (so "case") 784, .str (so "of") 785, .str (so "is") 786, .str (so "else") 787, .str (so "con") 788, .str (so "prim") 789, .str (so "program") 790]) 0, #[]⟩ := by kernel_rfl
theorem RepL.strs {w : World} {R : RM} : ∀ l : List (Str × Tok), RepL w R (l.map fun p => .str p.1) (l.map fun p => .str p.1 p.2)
  | [] => .nil
  | p :: r => .cons _ _ _ _ (.str _ _) (RepL.strs r)
noncomputable def kwL : List (Str × Tok) := [(so "int", 778), (so "char", 779), (so "app", 780), (so "lam", 781), (so "let", 782), (so "letrec", 783), (so "case", 784), (so "of", 785), (so "is", 786), (so "else", 787), (so "con", 788), (so "prim", 789), (so "program", 790)]
theorem gl_ok {B : Bs} (hK : B.K = Mine.KF P) : GlOK B := fun n v hn => by
  have X : (Mine.KF P).In B.hB := hK ▸ B.X
  have hs := all_of (gl_says (P := P)) (lookup_mem hn)
  dsimp only at hs
  cases v with
  | stat a => exact ⟨.ref a, .inl (mg_of X B.g (beq_iff_eq.mp hs)), fun R _ => .stat a⟩
  | fn k =>
    simp only [glSays, Bool.and_eq_true, Bool.not_eq_true'] at hs
    exact ⟨primVal k, .inr ⟨mg_none_of X B.g (beq_iff_eq.mp hs.1), (B.bi n (beq_eq_false_iff_ne.mp hs.2.2)).trans (beq_iff_eq.mp hs.2.1)⟩, fun R _ => .fn k⟩
  | str s =>
    unfold glSays at hs
    dsimp only at hs
    split at hs
    · rename_i t k e
      have := eq_of_beq hs
      subst this
      exact ⟨.str _ k, .inl (mg_of X B.g e), fun R _ => .str _ k⟩
    · cases hs
  | tuple vs =>
    simp only [glSays, Bool.and_eq_true] at hs
    have hn2 := eq_of_beq hs.1
    subst hn2
    have hv : gl (so "KEY_WORDS") = some (.tuple (kwL.map fun p => .str p.1)) := by kernel_rfl
    rw [hv] at hn
    cases hn
    exact ⟨.ref 448, .inl (mg_of X B.g (beq_iff_eq.mp hs.2)), fun R hR => .obj _ 448 _ (by decide) (hR 448 _ (X 448 _ kw_obj)) (.tuple _ (kwL.map fun p => .str p.1 p.2) 0 (RepL.strs kwL))⟩
  | _ => cases hs
theorem facts_ok {B : Bs} (hK : B.K = Mine.KF P) : Facts B := ⟨gl_ok hK, hK ▸ k_isi, hK ▸ k_attr⟩
theorem tab_ok {B : Bs} (hK : B.K = Mine.KF P) : TabOK B where
  fn a st h := by
    have hm := lookup_mem h
    exact ⟨fn_ok hK (p := (a, st)) (List.mem_append_left _ hm), by rw [hK]; exact all_of k_fn hm⟩
  cls C f st h := by
    have hm := lookup_mem h
    have hs := all_of (k_cls (P := P)) hm
    simp only [clsSays, Bool.and_eq_true] at hs
    have hl : (scopeOf st).names.lookup (so "self") = some .local := by
      have := hs.2.2.2.2
      split at this
      · assumption
      · cases this
    exact ⟨fn_ok hK (p := (f, st)) (List.mem_append_right _ (List.mem_map.mpr ⟨(C, f, st), hm, rfl⟩)), hK ▸ hs.1, by rw [hK]; exact beq_iff_eq.mp hs.2.1, by rw [hK]; exact beq_iff_eq.mp hs.2.2.1, by rw [hK]; exact hs.2.2.2.1, hl⟩
end
end Mini
namespace Mini
noncomputable abbrev law0 : OpenLaw := PySem.Challenge.rw_og0020_01
open PySem.W
theorem law_main (script : List Int) (hl : script.length ≤ 63) : ∃ μ', callF 100 60 659 [.list (script.map .int)] [none, none, none, none, none] = some (.val (.bool true), μ') := law_all hl
theorem at_keeps {h h' : Heap} (k : ∀ b o, h.get? b = some o → h'.get? b = some o) : ∀ (as : List Addr) (K : Frag), as.map h.get? = K.map (fun p => some p.2) → as.map h'.get? = K.map (fun p => some p.2)
  | [], [], _ => rfl
  | [], _ :: _, e => by cases e
  | _ :: _, [], e => by cases e
  | a :: as, p :: K, e => by
    simp only [List.map_cons, List.cons.injEq] at e ⊢
    exact ⟨k _ _ e.1, at_keeps k as K e.2⟩
noncomputable def base0 (h : Heap) : RM := fun a => (h.get? a).map .frozen
theorem base0_hs {B : Bs} {s : Shared} (hB : B.hB = s.heap) (hg : s.gens = #[]) (ho : s.os = B.os) : HS B (base0 s.heap) s where
  holds a sp e := by
    obtain ⟨o, h1, rfl⟩ := Option.map_eq_some_iff.mp e
    exact h1
  base a o e := by rw [hB] at e; unfold base0; rw [e]; rfl
  own a sp L e eo := by
    obtain ⟨o, h1, rfl⟩ := Option.map_eq_some_iff.mp e
    cases eo
  regs a b r := fun ⟨sp, e, er⟩ => by
    obtain ⟨o, h1, rfl⟩ := Option.map_eq_some_iff.mp e
    cases er
  gens := hg
  os := ho
theorem base0_regs (h : Heap) : RegsOK (base0 h) [none, none, none, none, none] where
  len := rfl
  here r v e := by
    rcases r with _ | _ | _ | _ | _ | _ <;> cases e
  gone r _ a := fun ⟨sp, e, er⟩ => by
    obtain ⟨o, h1, rfl⟩ := Option.map_eq_some_iff.mp e
    cases er
theorem callerRoom : Room callerA 60 := ⟨rfl, by decide, by decide⟩
noncomputable def isI : WData → Bool
  | .int _ => true
  | _ => false
theorem int_well {P : Params} {h : Heap} {w : World} {R : RM} {v : Value} {x : WData} (H : Well P h v x) (e : isI x = true) : ∃ i : Int, x = .int i ∧ RepV w R (.int i) v := by
  cases H with
  | int i t => exact ⟨i, rfl, .int i t⟩
  | _ => exact ft e
theorem ints_well {P : Params} {h : Heap} {w : World} {R : RM} : ∀ {xs : List WData} {vs : List Value}, WellAll P h vs xs → xs.all isI = true → ∃ ns : List Int, xs = ns.map .int ∧ RepL w R (ns.map .int) vs
  | [], vs, H, _ => ⟨[], rfl, by cases H; exact .nil⟩
  | x :: xs, vs, H, e => by
    obtain ⟨e1, e2⟩ := Bool.and_eq_true_iff.mp e
    cases H with
    | cons h1 h2 =>
      obtain ⟨i, rfl, r⟩ := int_well h1 e1
      obtain ⟨ns, rfl, hr⟩ := ints_well h2 e2
      exact ⟨i :: ns, rfl, .cons _ _ _ _ r hr⟩
theorem has_int {R : WRecords} {x : WData} (h : WShape.has R x .int = true) : isI x = true := by
  cases x with
  | int => rfl
  | _ => exact ft h
theorem has_ints {R : WRecords} {x : WData} (h : WShape.has R x (.list .int) = true) : ∃ xs, x = .list xs ∧ WShape.hasItems R xs .int = true := by
  cases x with
  | list xs => exact ⟨xs, rfl, (Bool.or_false _).symm.trans h⟩
  | _ => exact ft h
theorem items_int {R : WRecords} : ∀ {xs : List WData}, WShape.hasItems R xs .int = true → xs.all isI = true
  | [], _ => rfl
  | x :: xs, h => by
    obtain ⟨h1, h2⟩ := Bool.and_eq_true_iff.mp (show (WShape.has R x .int && WShape.hasItems R xs .int) = true from h)
    exact Bool.and_eq_true_iff.mpr ⟨has_int h1, items_int h2⟩
theorem argsOf {R : WRecords} {args : List WData} (h : WShape.hasAll R args [.list .int] = true) : ∃ xs, args = [.list xs] ∧ xs.all isI = true := by
  cases args with
  | nil => exact ft h
  | cons x r =>
    obtain ⟨h1, h2⟩ := Bool.and_eq_true_iff.mp (show (WShape.has R x (.list .int) && WShape.hasAll R r []) = true from h)
    obtain ⟨xs, rfl, h3⟩ := has_ints h1
    cases r with
    | nil => exact ⟨xs, rfl, items_int h3⟩
    | cons y q => exact ft h2
theorem short_of {xs : List WData} (h : (law0.pre).holds [] { args := [.list xs] } = true) : xs.length ≤ 63 := by
  by_cases hl : (63 : Int) < (xs.length : Int)
  · exfalso
    have e : less? (.int 63) (.int (xs.length : Int)) = some true := by simp [less?, Num.less?, hl]
    have : (law0.pre).value [] { args := [.list xs] } = some (.bool false) := by
      show (match (match (match (some (WData.int 63)), (some (WData.int (xs.length : Int))) with | some x, some y => (less? x y).map WData.bool | _, _ => none) with | some (.bool b) => some (WData.bool (!b)) | _ => none) with | some (.bool false) => some (WData.bool false) | some (.bool true) => _ | _ => none) = _
      dsimp only
      rw [e]
      rfl
    unfold WTm.holds at h
    rw [this] at h
    cases h
  · omega
theorem walk {d : DefRec} (hdn : d.name = so "law") : WalkO Mine.view Mine.looseNames (fun _ _ => True) (fun w h => Mine.kAddrs.map h.get? = (Mine.KF w.params).map fun p => some p.2) law0.row.toRowW d [] (fun f vs => PySem.call f vs) := by
  intro w s₀ s₁ mg mb G Y fa o pm cd doc dV kV ho hd hcd hD hmg hg args vals as hpre hlay hrd hwl hlo
  have X : (Mine.KF w.params).In s₁.heap := Frag.in_of (as := Mine.kAddrs) (by kernel_rfl) Y
  have hm := mg_of (v := .ref 659) (n := so "law") X G.T.g (by kernel_rfl)
  rw [hdn, hm] at hmg
  cases hmg
  have hpre : (WShape.hasAll [] args [.list .int] && law0.pre.holds [] { args := args }) = true := hpre
  rw [Bool.and_eq_true] at hpre
  obtain ⟨xs, rfl, hxs⟩ := argsOf hpre.1
  have hlen := short_of hpre.2
  cases hwl with
  | cons h1 h2 =>
  cases h2
  cases h1 with
  | list hl hall =>
  rename_i l vs
  obtain ⟨ns, rfl, hrep⟩ := ints_well (w := w) (R := base0 s₁.heap) hall hxs
  let B : Bs := { w := w, K := Mine.KF w.params, hB := s₁.heap, os := s₁.os, mg := mg, mb := mb, X := X, lim := G.T.nolimit, g := G.T.g, b := G.T.b, bi := G.T.builtins, sm := ⟨659, _, by decide, X 659 _ (show (Mine.KF w.params).lookup 659 = some (Mine.O659 w.params) by kernel_rfl)⟩ }
  have hB : B.K = Mine.KF w.params := rfl
  obtain ⟨μ', e⟩ := law_main ns (by rw [List.length_map] at hlen; exact hlen)
  have S := (callF_sound (B := B) (wf := 100) (tab_ok hB) (facts_ok hB) k_meth k_set 60 callerA callerRoom 659 _ _ _ e).2 (base0 s₁.heap) s₁ [.ref l] (base0_hs rfl hg rfl) (base0_regs _)
    (.cons _ _ _ _ (.obj _ l _ (hlo l (by cases hrd with | cons q _ => cases q with | list => simp)) (by unfold base0; rw [hl]; rfl) (.list _ vs 0 hrep)) .nil)
  refine wpAny_mono (M := model PW w) S (fun u s' ⟨R', H, _, _, r⟩ => ?_) fun _ _ e => e.elim
  have : u = .bool true := RepV.bool_inv r rfl
  subst this
  exact ⟨.inl ⟨.bool true, .bool true, [], rfl, fun _ => rfl, .bool true, by kernel_rfl, fun _ => ⟨.nil, fun a h => nomatch h⟩⟩, .of_keep H.keep, H.os, .of_eq H.gens⟩
end Mini
namespace Mini
theorem row_holds (said : law0.row.wellSaid = true) : law0.row.Holds :=
  PySem.W.holds_open (α := List (Option Obj)) (q := Mine.view) (loose := Mine.looseNames) (Xt := fun _ => true) (XP := fun _ _ => True) (Yf := fun s => Mine.kAddrs.map s.heap.get?) (Ya := fun w => (Mine.KF w.params).map fun (p : Addr × Obj) => some p.2) (YP := fun w h => Mine.kAddrs.map h.get? = (Mine.KF w.params).map fun p => some p.2) (N := 5200)
    Mine.left (fun w s e => e) (fun w h h' e k => at_keeps k _ _ e) (fun _ _ => trivial) (fun _ _ _ _ _ => trivial) (by rfl) (by rfl) (by rfl) (fun s _ => recFacts_of (by rfl)) (by rfl) said (by decide +kernel) ⟨rfl, rfl, rfl, rfl, rfl, by decide +kernel⟩
    ⟨[.list [.int 3, .int 1]], by decide +kernel, by decide +kernel⟩ (walk (by rfl))
theorem said : PySem.Challenge.rw_og0020_01.wellSaid = true := by
  rw [PySem.W.Fast.te9446332074065402090]; kernel_rfl
end Mini
set_option maxHeartbeats 8000000 in
theorem PySem.Challenge.cw_og0020_01_holds : PySem.Challenge.rw_og0020_01.Holds :=
  PySem.W.holds_law Mini.said Mini.row_holds
