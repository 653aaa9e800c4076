import PyProof.Rows.All
import Wide.All
import OpenK.AllK
import Wide.FinOn
import Lean
import PySem.Challenge.RW_qz0034_01
open PySem PySem.W PyProof.Rows PySem.Calls
set_option Elab.async false
set_option maxRecDepth 100000
set_option compiler.extract_closed false
set_option linter.all false
namespace Mine
/- Hg -/
/-- a heap's objects laid as a tree, each insertion looked at -/
noncomputable def treeOf : List Obj → BT → Nat → Option (BT × Nat)
  | [], t, n => some (t, n)
  | o :: r, t, n => match ((t.ins n o).get n).isSome with
    | true => treeOf r (t.ins n o) (n + 1)
    | false => none
theorem treeOf_abs {life : Life} : ∀ (l : List Obj) (t t' : BT) (n n' : Nat), treeOf l t n = some (t', n') →
    absHeap t' n' life = ⟨((absHeap t n life).objs.toList ++ l).toArray, life⟩
  | [], t, t', n, n', h => by
    obtain ⟨rfl, rfl⟩ : t = t' ∧ n = n' := by simpa [treeOf] using h
    simp [absHeap]
  | o :: r, t, t', n, n', h => by
    unfold treeOf at h
    cases hi : ((t.ins n o).get n).isSome with
    | false => rw [hi] at h; cases h
    | true =>
      rw [hi] at h
      rw [treeOf_abs r _ _ _ _ h, absHeap_ins hi]
      simp [Heap.push]
noncomputable def sharedT (s : Shared) : Option SharedT := (treeOf s.heap.objs.toList .nil 0).map fun x => ⟨x.1, x.2, s.heap.life, s.gens, s.drawn, s.toks, s.os⟩
theorem sharedT_abs {s : Shared} {t : SharedT} (h : sharedT s = some t) : t.abs = s := by
  obtain ⟨x, hx, rfl⟩ := Option.map_eq_some_iff.mp h
  obtain ⟨heap, gens, drawn, toks, os⟩ := s
  unfold SharedT.abs
  dsimp only
  rw [treeOf_abs (life := heap.life) _ _ _ _ _ hx]
  obtain ⟨objs, life⟩ := heap
  simp [absHeap, BT.list]
noncomputable abbrev q0 : Pos := ⟨0, 0, 0, 0⟩
noncomputable abbrev Hdr := Thread × Flow × Code × Flow × Code
/-- the top, run in tree form; beside the end state the shapes that the pieces' lemmas ask -/
noncomputable def topT (tb : String → Option Builtin) (p : Program) (w : World) (n₀ : Nat) (ann : Option Value) (env : Env) (N : Nat) (s₀ : Shared) : Option (Hdr × Shared) :=
  (topGo tb p w n₀ ann 12 s₀ (topStub p)).bind fun x =>
  (segRun tb p w n₀ ann 1 1 x.1 (blockOf (behindTheImports p) env (.body (behindTheImports p) env) q0 [topFrame q0])).bind fun y =>
  (sharedT y.2.1).bind fun z =>
  (segRunT tb p w n₀ ann 1 N z (piecesOf (behindTheImports p) env (.body (behindTheImports p) env) y.2.2.2 [topFrame q0])).bind fun u =>
  (topRun tb p w n₀ ann 2 u.2.1.abs ⟨doneF .next, .body (behindTheImports p) env, u.2.2.2, [topFrame q0]⟩).map fun s =>
  ((x.2, y.1, y.2.2.1, u.1, u.2.2.1), s)
noncomputable abbrev hdrOf (tb : String → Option Builtin) (p : Program) (env : Env) : Hdr :=
  (⟨denote tb (.body (behindTheImports p) env), .body (behindTheImports p) env, q0, [topFrame q0]⟩, .next, .body (behindTheImports p) env, .next, .body (behindTheImports p) env)
theorem topT_run {tb : String → Option Builtin} {p : Program} {w : World} {n₀ : Nat} {ann : Option Value} {env : Env} {N : Nat} {s₀ s : Shared} {hdr : Hdr} (h : topT tb p w n₀ ann env N s₀ = some (hdr, s)) (hh : hdr = hdrOf tb p env) :
    topRun tb p w n₀ ann (12 + (1 + (N + 2))) s₀ (topStub p) = some s := by
  unfold topT at h
  obtain ⟨⟨sA, tA⟩, h1, h⟩ := Option.bind_eq_some_iff.mp h
  obtain ⟨⟨f1, sB, c1, p1⟩, h2, h⟩ := Option.bind_eq_some_iff.mp h
  obtain ⟨z, h3, h⟩ := Option.bind_eq_some_iff.mp h
  obtain ⟨⟨f2, sC, c2, p2⟩, h4, h⟩ := Option.bind_eq_some_iff.mp h
  obtain ⟨s', h5, h⟩ := Option.map_eq_some_iff.mp h
  obtain ⟨rfl, rfl⟩ := Prod.mk.inj h
  simp only [hdrOf, Prod.mk.injEq] at hh
  obtain ⟨rfl, rfl, rfl, rfl, rfl⟩ := hh
  refine go_top h1 (piece_block h2 ?_)
  have h6 := segRun_of h4
  rw [sharedT_abs h3] at h6
  have := piece_app (rest := []) h6 (piece_nil h5)
  rwa [List.append_nil] at this
noncomputable def endsT (tb : String → Option Builtin) (p : Program) (w : World) (env : Env) (N M : Nat) : Option (Hdr × Shared) :=
  (fencedOpening tb p w M).bind fun s₀ => match s₀.heap.isNs mainGlobals && s₀.gens.size == 0 with
    | true => (topT tb p w s₀.heap.objs.size (s₀.heap.nsMap mainGlobals "__annotations__") env N s₀).bind fun x => match staticsOk (importedModules p.main.body) s₀.heap x.2.heap && namesBound p x.2.heap && gensDone x.2 && laidKept s₀.heap x.2.heap with
      | true => some x
      | false => none
    | false => none
theorem leftO_of {p q : Program} {loose : List Str} {Xt : Shared → Bool} {α : Type} {Yf : Shared → α} {Ya : World → α} {N M : Nat} {g0 : Bool} {env : Env} (le : Nat.ble (12 + (1 + (N + 2))) M = true)
    (h : ∀ w, (endsT treeTable p w env N M).map (fun x => (x.1, openSeen q loose (importedModules p.main.body) Xt g0 x.2, Yf x.2)) = some (hdrOf treeTable p env, openGood q loose, Ya w)) : LeftO p q loose Xt Yf Ya M g0 := fun w => by
  obtain ⟨⟨hdr, s⟩, h1, h2⟩ := Option.map_eq_some_iff.mp (h w)
  obtain ⟨hh, h3⟩ := Prod.mk.inj h2
  unfold endsT at h1
  obtain ⟨s₀, h4, h5⟩ := Option.bind_eq_some_iff.mp h1
  unfold openEnds
  rw [h4]
  show (topFrom treeTable p w M s₀).map _ = _
  unfold topFrom
  cases hg : (s₀.heap.isNs mainGlobals && s₀.gens.size == 0) with
  | false => rw [hg] at h5; cases h5
  | true =>
    rw [hg] at h5
    obtain ⟨⟨hdr', s'⟩, h6, h7⟩ := Option.bind_eq_some_iff.mp h5
    cases hs : (staticsOk (importedModules p.main.body) s₀.heap s'.heap && namesBound p s'.heap && gensDone s' && laidKept s₀.heap s'.heap) with
    | false => dsimp only at h7; rw [hs] at h7; cases h7
    | true =>
      dsimp only at h7; rw [hs] at h7
      obtain ⟨rfl, rfl⟩ := Prod.mk.inj (Option.some.inj h7)
      have r := topRun_mono (M - (12 + (1 + (N + 2)))) _ _ _ _ (topT_run h6 hh)
      rw [show 12 + (1 + (N + 2)) + (M - (12 + (1 + (N + 2)))) = M by have := Nat.le_of_ble_eq_true le; omega] at r
      show ((topRun treeTable p w s₀.heap.objs.size (s₀.heap.nsMap mainGlobals "__annotations__") M s₀ (topStub p)).bind _).map _ = _
      rw [r]
      show (match staticsOk (importedModules p.main.body) s₀.heap s'.heap && namesBound p s'.heap && gensDone s' && laidKept s₀.heap s'.heap with | true => some s' | false => none).map _ = _
      rw [hs]
      exact congrArg some h3
/- Hk -/
/-- a def's statement by its place: at the top, or in a class of the top -/
noncomputable def defAt (i : Nat) : Stmt := PySem.Challenge.pw_qz0034_01.main.body.getD i default
noncomputable def clsBody : Stmt → List Stmt
  | .ClassDef (body := b) .. => b
  | _ => []
noncomputable def defIn (i j : Nat) : Stmt := (clsBody (defAt i)).getD j default
noncomputable def fdArgs : Stmt → Arguments
  | .FunctionDef (args := a) .. => a
  | _ => default
noncomputable def fdBody : Stmt → List Stmt
  | .FunctionDef (body := b) .. => b
  | _ => []
noncomputable def fdScope : Stmt → Scope
  | .FunctionDef (scope := s) .. => s
  | _ => default
/-- the objects that the walks look at, as they stand behind the top -/
noncomputable def heapK : Params → Frag := fun P =>
   (nat_lit 2, (Obj.mk Value.none none (Data.dict (List.toArray [(DictEntry.mk (PyData.keyHash P "type.__subclasses__.Exception.0") (Value.str "type.__subclasses__.Exception.0" 230) (Value.int 47 0)), (DictEntry.mk (PyData.keyHash P "type.__subclasses__.Exception.n") (Value.str "type.__subclasses__.Exception.n" 231) (Value.int 1 0))]) 2) (List.toArray []))) ::
   (nat_lit 3, (Obj.mk (Value.type "dict") none (Data.dict (List.toArray [(DictEntry.mk (PyData.keyHash P "__name__") (Value.str "__name__" 165) (Value.str "law_qz0034_01" 1383)), (DictEntry.mk (PyData.keyHash P "__doc__") (Value.str "__doc__" 166) Value.none), (DictEntry.mk (PyData.keyHash P "__package__") (Value.str "__package__" 167) Value.none), (DictEntry.mk (PyData.keyHash P "__loader__") (Value.str "__loader__" 168) (Value.builtin "__main__.__loader__#opaque")), (DictEntry.mk (PyData.keyHash P "__spec__") (Value.str "__spec__" 169) Value.none), (DictEntry.mk (PyData.keyHash P "__annotations__") (Value.str "__annotations__" 170) (Value.ref 6)), (DictEntry.mk (PyData.keyHash P "__builtins__") (Value.str "__builtins__" 171) (Value.ref 4)), (DictEntry.mk (PyData.keyHash P "__file__") (Value.str "__file__" 173) (Value.str "/claim/cut.py" 172)), (DictEntry.mk (PyData.keyHash P "__cached__") (Value.str "__cached__" 174) Value.none), (DictEntry.mk (PyData.keyHash P "_wall") (Value.str "_wall" 193) (Value.ref 21)), (DictEntry.mk (PyData.keyHash P "SmtError") (Value.str "SmtError" 233) (Value.ref 47)), (DictEntry.mk (PyData.keyHash P "SortFault") (Value.str "SortFault" 256) (Value.ref 67)), (DictEntry.mk (PyData.keyHash P "LimitFault") (Value.str "LimitFault" 279) (Value.ref 86)), (DictEntry.mk (PyData.keyHash P "ModelFault") (Value.str "ModelFault" 302) (Value.ref 105)), (DictEntry.mk (PyData.keyHash P "gcd_of") (Value.str "gcd_of" 312) (Value.ref 114)), (DictEntry.mk (PyData.keyHash P "ratio") (Value.str "ratio" 321) (Value.ref 121)), (DictEntry.mk (PyData.keyHash P "add") (Value.str "add" 329) (Value.ref 128)), (DictEntry.mk (PyData.keyHash P "mul") (Value.str "mul" 337) (Value.ref 135)), (DictEntry.mk (PyData.keyHash P "compare") (Value.str "compare" 347) (Value.ref 142)), (DictEntry.mk (PyData.keyHash P "is_whole") (Value.str "is_whole" 354) (Value.ref 149)), (DictEntry.mk (PyData.keyHash P "mask_of") (Value.str "mask_of" 363) (Value.ref 156)), (DictEntry.mk (PyData.keyHash P "signed_of") (Value.str "signed_of" 371) (Value.ref 163)), (DictEntry.mk (PyData.keyHash P "one_value") (Value.str "one_value" 380) (Value.ref 170)), (DictEntry.mk (PyData.keyHash P "divided_value") (Value.str "divided_value" 389) (Value.ref 177)), (DictEntry.mk (PyData.keyHash P "rest_value") (Value.str "rest_value" 397) (Value.ref 184)), (DictEntry.mk (PyData.keyHash P "shifted_value") (Value.str "shifted_value" 407) (Value.ref 191)), (DictEntry.mk (PyData.keyHash P "two_value") (Value.str "two_value" 417) (Value.ref 198)), (DictEntry.mk (PyData.keyHash P "ask_value") (Value.str "ask_value" 427) (Value.ref 205)), (DictEntry.mk (PyData.keyHash P "extract_value") (Value.str "extract_value" 436) (Value.ref 212)), (DictEntry.mk (PyData.keyHash P "concat_value") (Value.str "concat_value" 445) (Value.ref 219)), (DictEntry.mk (PyData.keyHash P "sign_extended") (Value.str "sign_extended" 454) (Value.ref 226)), (DictEntry.mk (PyData.keyHash P "bit_value") (Value.str "bit_value" 462) (Value.ref 233)), (DictEntry.mk (PyData.keyHash P "carry_value") (Value.str "carry_value" 473) (Value.ref 240)), (DictEntry.mk (PyData.keyHash P "below_value") (Value.str "below_value" 482) (Value.ref 247)), (DictEntry.mk (PyData.keyHash P "BOOL") (Value.str "BOOL" 484) (Value.int 0 483)), (DictEntry.mk (PyData.keyHash P "INT") (Value.str "INT" 486) (Value.int 1 485)), (DictEntry.mk (PyData.keyHash P "REAL") (Value.str "REAL" 488) (Value.int 2 487)), (DictEntry.mk (PyData.keyHash P "WIDEST") (Value.str "WIDEST" 490) (Value.int 4096 489)), (DictEntry.mk (PyData.keyHash P "MOST_BITS") (Value.str "MOST_BITS" 494) (Value.int 65536 493)), (DictEntry.mk (PyData.keyHash P "BV_SAME") (Value.str "BV_SAME" 505) (Value.ref 248)), (DictEntry.mk (PyData.keyHash P "BV_ASK") (Value.str "BV_ASK" 510) (Value.ref 249)), (DictEntry.mk (PyData.keyHash P "Bank") (Value.str "Bank" 795) (Value.ref 462)), (DictEntry.mk (PyData.keyHash P "BoolBank") (Value.str "BoolBank" 928) (Value.ref 567)), (DictEntry.mk (PyData.keyHash P "want_small") (Value.str "want_small" 935) (Value.ref 576)), (DictEntry.mk (PyData.keyHash P "NumberBank") (Value.str "NumberBank" 1049) (Value.ref 663)), (DictEntry.mk (PyData.keyHash P "TermBank") (Value.str "TermBank" 1204) (Value.ref 782)), (DictEntry.mk (PyData.keyHash P "NOUGHT") (Value.str "NOUGHT" 1209) (Value.ref 785)), (DictEntry.mk (PyData.keyHash P "plain_value") (Value.str "plain_value" 1217) (Value.ref 792)), (DictEntry.mk (PyData.keyHash P "Model") (Value.str "Model" 1318) (Value.ref 865)), (DictEntry.mk (PyData.keyHash P "bits_worked_out") (Value.str "bits_worked_out" 1331) (Value.ref 876)), (DictEntry.mk (PyData.keyHash P "number_worked_out") (Value.str "number_worked_out" 1341) (Value.ref 883)), (DictEntry.mk (PyData.keyHash P "bits_asked") (Value.str "bits_asked" 1353) (Value.ref 890)), (DictEntry.mk (PyData.keyHash P "connected") (Value.str "connected" 1361) (Value.ref 897)), (DictEntry.mk (PyData.keyHash P "worked_out") (Value.str "worked_out" 1367) (Value.ref 902)), (DictEntry.mk (PyData.keyHash P "evaluate") (Value.str "evaluate" 1376) (Value.ref 909)), (DictEntry.mk (PyData.keyHash P "evaluate_all") (Value.str "evaluate_all" 1382) (Value.ref 914)), (DictEntry.mk (PyData.keyHash P "_law_next") (Value.str "_law_next" 1393) (Value.ref 921)), (DictEntry.mk (PyData.keyHash P "_law_worth") (Value.str "_law_worth" 1401) (Value.ref 928)), (DictEntry.mk (PyData.keyHash P "_law_words_right") (Value.str "_law_words_right" 1407) (Value.ref 933)), (DictEntry.mk (PyData.keyHash P "_law_formula") (Value.str "_law_formula" 1421) (Value.ref 940)), (DictEntry.mk (PyData.keyHash P "_law_values") (Value.str "_law_values" 1427) (Value.ref 945)), (DictEntry.mk (PyData.keyHash P "law") (Value.str "law" 1433) (Value.ref 950))]) 62) (List.toArray []))) ::
   (nat_lit 262, (Obj.mk (Value.type "code") none (Data.fields (List.toArray [(Value.str "__init__" 523), (Value.str "Bank.__init__" 524), (Value.str "/claim/cut.py" 525), (Value.int 120 0), (Value.int 1 0), (Value.int 0 0), (Value.int 0 0), (Value.int 3 0), (Value.ref 257), (Value.bool Bool.true), (Value.int 181 0), (Value.ref 258), Value.none, (Value.ref 259), (Value.ref 260), (Value.ref 261), (Value.int 527 0), (Value.int 120 0), (Value.str "/claim/cut.py" 528)])) (List.toArray []))) ::
   (nat_lit 263, (Obj.mk (Value.type "function") none (Data.func (FuncData.mk "__init__" "Bank.__init__" (fdArgs (defIn 35 0)) (FuncBody.stmts (fdBody (defIn 35 0))) (fdScope (defIn 35 0)) 3 [] Value.none Value.none Value.none (Value.str "minismt.terms" 355) none (Value.ref 262) Value.none 0)) (List.toArray []))) ::
   (nat_lit 304, (Obj.mk (Value.type "code") none (Data.fields (List.toArray [(Value.str "declare_fun" 570), (Value.str "Bank.declare_fun" 571), (Value.str "/claim/cut.py" 572), (Value.int 150 0), (Value.int 4 0), (Value.int 0 0), (Value.int 0 0), (Value.int 3 0), (Value.ref 299), (Value.bool Bool.true), (Value.int 181 0), (Value.ref 300), Value.none, (Value.ref 301), (Value.ref 302), (Value.ref 303), (Value.int 577 0), (Value.int 150 0), (Value.str "/claim/cut.py" 578)])) (List.toArray []))) ::
   (nat_lit 305, (Obj.mk (Value.type "function") none (Data.func (FuncData.mk "declare_fun" "Bank.declare_fun" (fdArgs (defIn 35 6)) (FuncBody.stmts (fdBody (defIn 35 6))) (fdScope (defIn 35 6)) 3 [] Value.none Value.none Value.none (Value.str "minismt.terms" 355) none (Value.ref 304) Value.none 0)) (List.toArray []))) ::
   (nat_lit 318, (Obj.mk (Value.type "code") none (Data.fields (List.toArray [(Value.str "fresh_const" 590), (Value.str "Bank.fresh_const" 591), (Value.str "/claim/cut.py" 592), (Value.int 159 0), (Value.int 3 0), (Value.int 0 0), (Value.int 0 0), (Value.int 3 0), (Value.ref 313), (Value.bool Bool.true), (Value.int 181 0), (Value.ref 314), Value.none, (Value.ref 315), (Value.ref 316), (Value.ref 317), (Value.int 596 0), (Value.int 159 0), (Value.str "/claim/cut.py" 597)])) (List.toArray []))) ::
   (nat_lit 319, (Obj.mk (Value.type "function") none (Data.func (FuncData.mk "fresh_const" "Bank.fresh_const" (fdArgs (defIn 35 8)) (FuncBody.stmts (fdBody (defIn 35 8))) (fdScope (defIn 35 8)) 3 [] Value.none Value.none Value.none (Value.str "minismt.terms" 355) none (Value.ref 318) Value.none 0)) (List.toArray []))) ::
   (nat_lit 339, (Obj.mk (Value.type "code") none (Data.fields (List.toArray [(Value.str "fun_result" 615), (Value.str "Bank.fun_result" 616), (Value.str "/claim/cut.py" 617), (Value.int 168 0), (Value.int 2 0), (Value.int 0 0), (Value.int 0 0), (Value.int 3 0), (Value.ref 334), (Value.bool Bool.true), (Value.int 181 0), (Value.ref 335), Value.none, (Value.ref 336), (Value.ref 337), (Value.ref 338), (Value.int 620 0), (Value.int 168 0), (Value.str "/claim/cut.py" 621)])) (List.toArray []))) ::
   (nat_lit 340, (Obj.mk (Value.type "function") none (Data.func (FuncData.mk "fun_result" "Bank.fun_result" (fdArgs (defIn 35 11)) (FuncBody.stmts (fdBody (defIn 35 11))) (fdScope (defIn 35 11)) 3 [] Value.none Value.none Value.none (Value.str "minismt.terms" 355) none (Value.ref 339) Value.none 0)) (List.toArray []))) ::
   (nat_lit 353, (Obj.mk (Value.type "code") none (Data.fields (List.toArray [(Value.str "op" 630), (Value.str "Bank.op" 631), (Value.str "/claim/cut.py" 632), (Value.int 174 0), (Value.int 2 0), (Value.int 0 0), (Value.int 0 0), (Value.int 3 0), (Value.ref 348), (Value.bool Bool.true), (Value.int 181 0), (Value.ref 349), Value.none, (Value.ref 350), (Value.ref 351), (Value.ref 352), (Value.int 635 0), (Value.int 174 0), (Value.str "/claim/cut.py" 636)])) (List.toArray []))) ::
   (nat_lit 354, (Obj.mk (Value.type "function") none (Data.func (FuncData.mk "op" "Bank.op" (fdArgs (defIn 35 13)) (FuncBody.stmts (fdBody (defIn 35 13))) (fdScope (defIn 35 13)) 3 [] Value.none Value.none Value.none (Value.str "minismt.terms" 355) none (Value.ref 353) Value.none 0)) (List.toArray []))) ::
   (nat_lit 360, (Obj.mk (Value.type "code") none (Data.fields (List.toArray [(Value.str "args" 638), (Value.str "Bank.args" 639), (Value.str "/claim/cut.py" 640), (Value.int 177 0), (Value.int 2 0), (Value.int 0 0), (Value.int 0 0), (Value.int 3 0), (Value.ref 355), (Value.bool Bool.true), (Value.int 181 0), (Value.ref 356), Value.none, (Value.ref 357), (Value.ref 358), (Value.ref 359), (Value.int 643 0), (Value.int 177 0), (Value.str "/claim/cut.py" 644)])) (List.toArray []))) ::
   (nat_lit 361, (Obj.mk (Value.type "function") none (Data.func (FuncData.mk "args" "Bank.args" (fdArgs (defIn 35 14)) (FuncBody.stmts (fdBody (defIn 35 14))) (fdScope (defIn 35 14)) 3 [] Value.none Value.none Value.none (Value.str "minismt.terms" 355) none (Value.ref 360) Value.none 0)) (List.toArray []))) ::
   (nat_lit 367, (Obj.mk (Value.type "code") none (Data.fields (List.toArray [(Value.str "sort" 646), (Value.str "Bank.sort" 647), (Value.str "/claim/cut.py" 648), (Value.int 180 0), (Value.int 2 0), (Value.int 0 0), (Value.int 0 0), (Value.int 3 0), (Value.ref 362), (Value.bool Bool.true), (Value.int 181 0), (Value.ref 363), Value.none, (Value.ref 364), (Value.ref 365), (Value.ref 366), (Value.int 651 0), (Value.int 180 0), (Value.str "/claim/cut.py" 652)])) (List.toArray []))) ::
   (nat_lit 368, (Obj.mk (Value.type "function") none (Data.func (FuncData.mk "sort" "Bank.sort" (fdArgs (defIn 35 15)) (FuncBody.stmts (fdBody (defIn 35 15))) (fdScope (defIn 35 15)) 3 [] Value.none Value.none Value.none (Value.str "minismt.terms" 355) none (Value.ref 367) Value.none 0)) (List.toArray []))) ::
   (nat_lit 374, (Obj.mk (Value.type "code") none (Data.fields (List.toArray [(Value.str "data" 654), (Value.str "Bank.data" 655), (Value.str "/claim/cut.py" 656), (Value.int 183 0), (Value.int 2 0), (Value.int 0 0), (Value.int 0 0), (Value.int 3 0), (Value.ref 369), (Value.bool Bool.true), (Value.int 181 0), (Value.ref 370), Value.none, (Value.ref 371), (Value.ref 372), (Value.ref 373), (Value.int 659 0), (Value.int 183 0), (Value.str "/claim/cut.py" 660)])) (List.toArray []))) ::
   (nat_lit 375, (Obj.mk (Value.type "function") none (Data.func (FuncData.mk "data" "Bank.data" (fdArgs (defIn 35 16)) (FuncBody.stmts (fdBody (defIn 35 16))) (fdScope (defIn 35 16)) 3 [] Value.none Value.none Value.none (Value.str "minismt.terms" 355) none (Value.ref 374) Value.none 0)) (List.toArray []))) ::
   (nat_lit 381, (Obj.mk (Value.type "code") none (Data.fields (List.toArray [(Value.str "width" 662), (Value.str "Bank.width" 663), (Value.str "/claim/cut.py" 664), (Value.int 186 0), (Value.int 2 0), (Value.int 0 0), (Value.int 0 0), (Value.int 3 0), (Value.ref 376), (Value.bool Bool.true), (Value.int 181 0), (Value.ref 377), Value.none, (Value.ref 378), (Value.ref 379), (Value.ref 380), (Value.int 667 0), (Value.int 186 0), (Value.str "/claim/cut.py" 668)])) (List.toArray []))) ::
   (nat_lit 382, (Obj.mk (Value.type "function") none (Data.func (FuncData.mk "width" "Bank.width" (fdArgs (defIn 35 17)) (FuncBody.stmts (fdBody (defIn 35 17))) (fdScope (defIn 35 17)) 3 [] Value.none Value.none Value.none (Value.str "minismt.terms" 355) none (Value.ref 381) Value.none 0)) (List.toArray []))) ::
   (nat_lit 395, (Obj.mk (Value.type "code") none (Data.fields (List.toArray [(Value.str "make" 677), (Value.str "Bank.make" 678), (Value.str "/claim/cut.py" 679), (Value.int 192 0), (Value.int 5 0), (Value.int 0 0), (Value.int 0 0), (Value.int 3 0), (Value.ref 390), (Value.bool Bool.true), (Value.int 181 0), (Value.ref 391), Value.none, (Value.ref 392), (Value.ref 393), (Value.ref 394), (Value.int 687 0), (Value.int 192 0), (Value.str "/claim/cut.py" 688)])) (List.toArray []))) ::
   (nat_lit 396, (Obj.mk (Value.type "function") none (Data.func (FuncData.mk "make" "Bank.make" (fdArgs (defIn 35 19)) (FuncBody.stmts (fdBody (defIn 35 19))) (fdScope (defIn 35 19)) 3 [] Value.none Value.none Value.none (Value.str "minismt.terms" 355) none (Value.ref 395) Value.none 0)) (List.toArray []))) ::
   (nat_lit 416, (Obj.mk (Value.type "code") none (Data.fields (List.toArray [(Value.str "want" 709), (Value.str "Bank.want" 710), (Value.str "/claim/cut.py" 711), (Value.int 210 0), (Value.int 4 0), (Value.int 0 0), (Value.int 0 0), (Value.int 3 0), (Value.ref 411), (Value.bool Bool.true), (Value.int 181 0), (Value.ref 412), Value.none, (Value.ref 413), (Value.ref 414), (Value.ref 415), (Value.int 716 0), (Value.int 210 0), (Value.str "/claim/cut.py" 717)])) (List.toArray []))) ::
   (nat_lit 417, (Obj.mk (Value.type "function") none (Data.func (FuncData.mk "want" "Bank.want" (fdArgs (defIn 35 22)) (FuncBody.stmts (fdBody (defIn 35 22))) (fdScope (defIn 35 22)) 3 [] Value.none Value.none Value.none (Value.str "minismt.terms" 355) none (Value.ref 416) Value.none 0)) (List.toArray []))) ::
   (nat_lit 423, (Obj.mk (Value.type "code") none (Data.fields (List.toArray [(Value.str "want_all" 719), (Value.str "Bank.want_all" 720), (Value.str "/claim/cut.py" 721), (Value.int 214 0), (Value.int 4 0), (Value.int 0 0), (Value.int 0 0), (Value.int 3 0), (Value.ref 418), (Value.bool Bool.true), (Value.int 181 0), (Value.ref 419), Value.none, (Value.ref 420), (Value.ref 421), (Value.ref 422), (Value.int 727 0), (Value.int 214 0), (Value.str "/claim/cut.py" 728)])) (List.toArray []))) ::
   (nat_lit 424, (Obj.mk (Value.type "function") none (Data.func (FuncData.mk "want_all" "Bank.want_all" (fdArgs (defIn 35 23)) (FuncBody.stmts (fdBody (defIn 35 23))) (fdScope (defIn 35 23)) 3 [] Value.none Value.none Value.none (Value.str "minismt.terms" 355) none (Value.ref 423) Value.none 0)) (List.toArray []))) ::
   (nat_lit 444, (Obj.mk (Value.type "code") none (Data.fields (List.toArray [(Value.str "bool_term" 744), (Value.str "Bank.bool_term" 745), (Value.str "/claim/cut.py" 746), (Value.int 224 0), (Value.int 2 0), (Value.int 0 0), (Value.int 0 0), (Value.int 3 0), (Value.ref 439), (Value.bool Bool.true), (Value.int 181 0), (Value.ref 440), Value.none, (Value.ref 441), (Value.ref 442), (Value.ref 443), (Value.int 749 0), (Value.int 224 0), (Value.str "/claim/cut.py" 750)])) (List.toArray []))) ::
   (nat_lit 445, (Obj.mk (Value.type "function") none (Data.func (FuncData.mk "bool_term" "Bank.bool_term" (fdArgs (defIn 35 26)) (FuncBody.stmts (fdBody (defIn 35 26))) (fdScope (defIn 35 26)) 3 [] Value.none Value.none Value.none (Value.str "minismt.terms" 355) none (Value.ref 444) Value.none 0)) (List.toArray []))) ::
   (nat_lit 451, (Obj.mk (Value.type "code") none (Data.fields (List.toArray [(Value.str "parts" 752), (Value.str "Bank.parts" 753), (Value.str "/claim/cut.py" 754), (Value.int 227 0), (Value.int 2 0), (Value.int 0 0), (Value.int 0 0), (Value.int 3 0), (Value.ref 446), (Value.bool Bool.true), (Value.int 181 0), (Value.ref 447), Value.none, (Value.ref 448), (Value.ref 449), (Value.ref 450), (Value.int 757 0), (Value.int 227 0), (Value.str "/claim/cut.py" 758)])) (List.toArray []))) ::
   (nat_lit 452, (Obj.mk (Value.type "function") none (Data.func (FuncData.mk "parts" "Bank.parts" (fdArgs (defIn 35 27)) (FuncBody.stmts (fdBody (defIn 35 27))) (fdScope (defIn 35 27)) 3 [] Value.none Value.none Value.none (Value.str "minismt.terms" 355) none (Value.ref 451) Value.none 0)) (List.toArray []))) ::
   (nat_lit 458, (Obj.mk (Value.type "code") none (Data.fields (List.toArray [(Value.str "parts_of_all" 760), (Value.str "Bank.parts_of_all" 761), (Value.str "/claim/cut.py" 762), (Value.int 230 0), (Value.int 2 0), (Value.int 0 0), (Value.int 0 0), (Value.int 3 0), (Value.ref 453), (Value.bool Bool.true), (Value.int 181 0), (Value.ref 454), Value.none, (Value.ref 455), (Value.ref 456), (Value.ref 457), (Value.int 772 0), (Value.int 230 0), (Value.str "/claim/cut.py" 773)])) (List.toArray []))) ::
   (nat_lit 459, (Obj.mk (Value.type "function") none (Data.func (FuncData.mk "parts_of_all" "Bank.parts_of_all" (fdArgs (defIn 35 28)) (FuncBody.stmts (fdBody (defIn 35 28))) (fdScope (defIn 35 28)) 3 [] Value.none Value.none Value.none (Value.str "minismt.terms" 355) none (Value.ref 458) Value.none 0)) (List.toArray []))) ::
   (nat_lit 461, (Obj.mk (Value.type "dict") none (Data.dict (List.toArray [(DictEntry.mk (PyData.keyHash P "__module__") (Value.str "__module__" 518) (Value.str "minismt.terms" 355)), (DictEntry.mk (PyData.keyHash P "__firstlineno__") (Value.str "__firstlineno__" 522) (Value.int 118 521)), (DictEntry.mk (PyData.keyHash P "__init__") (Value.str "__init__" 529) (Value.ref 263)), (DictEntry.mk (PyData.keyHash P "sort_name") (Value.str "sort_name" 537) (Value.ref 270)), (DictEntry.mk (PyData.keyHash P "declare_sort") (Value.str "declare_sort" 545) (Value.ref 277)), (DictEntry.mk (PyData.keyHash P "width_of") (Value.str "width_of" 553) (Value.ref 284)), (DictEntry.mk (PyData.keyHash P "is_number_sort") (Value.str "is_number_sort" 561) (Value.ref 291)), (DictEntry.mk (PyData.keyHash P "is_free_sort") (Value.str "is_free_sort" 569) (Value.ref 298)), (DictEntry.mk (PyData.keyHash P "declare_fun") (Value.str "declare_fun" 579) (Value.ref 305)), (DictEntry.mk (PyData.keyHash P "fresh_fun") (Value.str "fresh_fun" 589) (Value.ref 312)), (DictEntry.mk (PyData.keyHash P "fresh_const") (Value.str "fresh_const" 598) (Value.ref 319)), (DictEntry.mk (PyData.keyHash P "fun_name") (Value.str "fun_name" 606) (Value.ref 326)), (DictEntry.mk (PyData.keyHash P "fun_arg_sorts") (Value.str "fun_arg_sorts" 614) (Value.ref 333)), (DictEntry.mk (PyData.keyHash P "fun_result") (Value.str "fun_result" 622) (Value.ref 340)), (DictEntry.mk (PyData.keyHash P "fun_count") (Value.str "fun_count" 629) (Value.ref 347)), (DictEntry.mk (PyData.keyHash P "op") (Value.str "op" 637) (Value.ref 354)), (DictEntry.mk (PyData.keyHash P "args") (Value.str "args" 645) (Value.ref 361)), (DictEntry.mk (PyData.keyHash P "sort") (Value.str "sort" 653) (Value.ref 368)), (DictEntry.mk (PyData.keyHash P "data") (Value.str "data" 661) (Value.ref 375)), (DictEntry.mk (PyData.keyHash P "width") (Value.str "width" 669) (Value.ref 382)), (DictEntry.mk (PyData.keyHash P "size") (Value.str "size" 676) (Value.ref 389)), (DictEntry.mk (PyData.keyHash P "make") (Value.str "make" 689) (Value.ref 396)), (DictEntry.mk (PyData.keyHash P "find_made") (Value.str "find_made" 700) (Value.ref 403)), (DictEntry.mk (PyData.keyHash P "is_value") (Value.str "is_value" 708) (Value.ref 410)), (DictEntry.mk (PyData.keyHash P "want") (Value.str "want" 718) (Value.ref 417)), (DictEntry.mk (PyData.keyHash P "want_all") (Value.str "want_all" 729) (Value.ref 424)), (DictEntry.mk (PyData.keyHash P "true_term") (Value.str "true_term" 736) (Value.ref 431)), (DictEntry.mk (PyData.keyHash P "false_term") (Value.str "false_term" 743) (Value.ref 438)), (DictEntry.mk (PyData.keyHash P "bool_term") (Value.str "bool_term" 751) (Value.ref 445)), (DictEntry.mk (PyData.keyHash P "parts") (Value.str "parts" 759) (Value.ref 452)), (DictEntry.mk (PyData.keyHash P "parts_of_all") (Value.str "parts_of_all" 774) (Value.ref 459)), (DictEntry.mk (PyData.keyHash P "__static_attributes__") (Value.str "__static_attributes__" 788) (Value.ref 460)), (DictEntry.mk (PyData.keyHash P "__dict__") (Value.str "__dict__" 790) (Value.ref 463)), (DictEntry.mk (PyData.keyHash P "__weakref__") (Value.str "__weakref__" 792) (Value.ref 464)), (DictEntry.mk (PyData.keyHash P "__doc__") (Value.str "__doc__" 793) Value.none)]) 4) (List.toArray []))) ::
   (nat_lit 462, (Obj.mk (Value.type "type") none (Data.cls (ClassData.mk "Bank" [(Value.type "object")] [(Value.ref 462), (Value.type "object")] 461 "Bank" Bool.true [] [(Value.ref 567)] Bool.false none Bool.false)) (List.toArray [none, none, (some (Value.str "Bank" 511)), (some (Value.str "Bank" 519)), (some (Value.builtin "object.__new__")), (some (Value.bool Bool.true))]))) ::
   (nat_lit 479, (Obj.mk (Value.type "code") none (Data.fields (List.toArray [(Value.str "not_of" 808), (Value.str "BoolBank.not_of" 809), (Value.str "/claim/cut.py" 810), (Value.int 249 0), (Value.int 2 0), (Value.int 0 0), (Value.int 0 0), (Value.int 3 0), (Value.ref 474), (Value.bool Bool.true), (Value.int 181 0), (Value.ref 475), Value.none, (Value.ref 476), (Value.ref 477), (Value.ref 478), (Value.int 813 0), (Value.int 249 0), (Value.str "/claim/cut.py" 814)])) (List.toArray []))) ::
   (nat_lit 480, (Obj.mk (Value.type "function") none (Data.func (FuncData.mk "not_of" "BoolBank.not_of" (fdArgs (defIn 36 0)) (FuncBody.stmts (fdBody (defIn 36 0))) (fdScope (defIn 36 0)) 3 [] Value.none Value.none Value.none (Value.str "minismt.terms" 355) none (Value.ref 479) Value.none 0)) (List.toArray []))) ::
   (nat_lit 486, (Obj.mk (Value.type "code") none (Data.fields (List.toArray [(Value.str "and_of" 816), (Value.str "BoolBank.and_of" 817), (Value.str "/claim/cut.py" 818), (Value.int 259 0), (Value.int 2 0), (Value.int 0 0), (Value.int 0 0), (Value.int 3 0), (Value.ref 481), (Value.bool Bool.true), (Value.int 181 0), (Value.ref 482), Value.none, (Value.ref 483), (Value.ref 484), (Value.ref 485), (Value.int 821 0), (Value.int 259 0), (Value.str "/claim/cut.py" 822)])) (List.toArray []))) ::
   (nat_lit 487, (Obj.mk (Value.type "function") none (Data.func (FuncData.mk "and_of" "BoolBank.and_of" (fdArgs (defIn 36 1)) (FuncBody.stmts (fdBody (defIn 36 1))) (fdScope (defIn 36 1)) 3 [] Value.none Value.none Value.none (Value.str "minismt.terms" 355) none (Value.ref 486) Value.none 0)) (List.toArray []))) ::
   (nat_lit 493, (Obj.mk (Value.type "code") none (Data.fields (List.toArray [(Value.str "or_of" 824), (Value.str "BoolBank.or_of" 825), (Value.str "/claim/cut.py" 826), (Value.int 265 0), (Value.int 2 0), (Value.int 0 0), (Value.int 0 0), (Value.int 3 0), (Value.ref 488), (Value.bool Bool.true), (Value.int 181 0), (Value.ref 489), Value.none, (Value.ref 490), (Value.ref 491), (Value.ref 492), (Value.int 829 0), (Value.int 265 0), (Value.str "/claim/cut.py" 830)])) (List.toArray []))) ::
   (nat_lit 494, (Obj.mk (Value.type "function") none (Data.func (FuncData.mk "or_of" "BoolBank.or_of" (fdArgs (defIn 36 2)) (FuncBody.stmts (fdBody (defIn 36 2))) (fdScope (defIn 36 2)) 3 [] Value.none Value.none Value.none (Value.str "minismt.terms" 355) none (Value.ref 493) Value.none 0)) (List.toArray []))) ::
   (nat_lit 500, (Obj.mk (Value.type "code") none (Data.fields (List.toArray [(Value.str "xor_of" 832), (Value.str "BoolBank.xor_of" 833), (Value.str "/claim/cut.py" 834), (Value.int 271 0), (Value.int 3 0), (Value.int 0 0), (Value.int 0 0), (Value.int 3 0), (Value.ref 495), (Value.bool Bool.true), (Value.int 181 0), (Value.ref 496), Value.none, (Value.ref 497), (Value.ref 498), (Value.ref 499), (Value.int 838 0), (Value.int 271 0), (Value.str "/claim/cut.py" 839)])) (List.toArray []))) ::
   (nat_lit 501, (Obj.mk (Value.type "function") none (Data.func (FuncData.mk "xor_of" "BoolBank.xor_of" (fdArgs (defIn 36 3)) (FuncBody.stmts (fdBody (defIn 36 3))) (fdScope (defIn 36 3)) 3 [] Value.none Value.none Value.none (Value.str "minismt.terms" 355) none (Value.ref 500) Value.none 0)) (List.toArray []))) ::
   (nat_lit 507, (Obj.mk (Value.type "code") none (Data.fields (List.toArray [(Value.str "implies_of" 841), (Value.str "BoolBank.implies_of" 842), (Value.str "/claim/cut.py" 843), (Value.int 275 0), (Value.int 3 0), (Value.int 0 0), (Value.int 0 0), (Value.int 3 0), (Value.ref 502), (Value.bool Bool.true), (Value.int 181 0), (Value.ref 503), Value.none, (Value.ref 504), (Value.ref 505), (Value.ref 506), (Value.int 847 0), (Value.int 275 0), (Value.str "/claim/cut.py" 848)])) (List.toArray []))) ::
   (nat_lit 508, (Obj.mk (Value.type "function") none (Data.func (FuncData.mk "implies_of" "BoolBank.implies_of" (fdArgs (defIn 36 4)) (FuncBody.stmts (fdBody (defIn 36 4))) (fdScope (defIn 36 4)) 3 [] Value.none Value.none Value.none (Value.str "minismt.terms" 355) none (Value.ref 507) Value.none 0)) (List.toArray []))) ::
   (nat_lit 521, (Obj.mk (Value.type "code") none (Data.fields (List.toArray [(Value.str "eq" 859), (Value.str "BoolBank.eq" 860), (Value.str "/claim/cut.py" 861), (Value.int 282 0), (Value.int 3 0), (Value.int 0 0), (Value.int 0 0), (Value.int 3 0), (Value.ref 516), (Value.bool Bool.true), (Value.int 181 0), (Value.ref 517), Value.none, (Value.ref 518), (Value.ref 519), (Value.ref 520), (Value.int 865 0), (Value.int 282 0), (Value.str "/claim/cut.py" 866)])) (List.toArray []))) ::
   (nat_lit 522, (Obj.mk (Value.type "function") none (Data.func (FuncData.mk "eq" "BoolBank.eq" (fdArgs (defIn 36 6)) (FuncBody.stmts (fdBody (defIn 36 6))) (fdScope (defIn 36 6)) 3 [] Value.none Value.none Value.none (Value.str "minismt.terms" 355) none (Value.ref 521) Value.none 0)) (List.toArray []))) ::
   (nat_lit 528, (Obj.mk (Value.type "code") none (Data.fields (List.toArray [(Value.str "distinct" 868), (Value.str "BoolBank.distinct" 869), (Value.str "/claim/cut.py" 870), (Value.int 288 0), (Value.int 2 0), (Value.int 0 0), (Value.int 0 0), (Value.int 3 0), (Value.ref 523), (Value.bool Bool.true), (Value.int 181 0), (Value.ref 524), Value.none, (Value.ref 525), (Value.ref 526), (Value.ref 527), (Value.int 873 0), (Value.int 288 0), (Value.str "/claim/cut.py" 874)])) (List.toArray []))) ::
   (nat_lit 529, (Obj.mk (Value.type "function") none (Data.func (FuncData.mk "distinct" "BoolBank.distinct" (fdArgs (defIn 36 7)) (FuncBody.stmts (fdBody (defIn 36 7))) (fdScope (defIn 36 7)) 3 [] Value.none Value.none Value.none (Value.str "minismt.terms" 355) none (Value.ref 528) Value.none 0)) (List.toArray []))) ::
   (nat_lit 535, (Obj.mk (Value.type "code") none (Data.fields (List.toArray [(Value.str "ite" 876), (Value.str "BoolBank.ite" 877), (Value.str "/claim/cut.py" 878), (Value.int 294 0), (Value.int 4 0), (Value.int 0 0), (Value.int 0 0), (Value.int 3 0), (Value.ref 530), (Value.bool Bool.true), (Value.int 181 0), (Value.ref 531), Value.none, (Value.ref 532), (Value.ref 533), (Value.ref 534), (Value.int 883 0), (Value.int 294 0), (Value.str "/claim/cut.py" 884)])) (List.toArray []))) ::
   (nat_lit 536, (Obj.mk (Value.type "function") none (Data.func (FuncData.mk "ite" "BoolBank.ite" (fdArgs (defIn 36 8)) (FuncBody.stmts (fdBody (defIn 36 8))) (fdScope (defIn 36 8)) 3 [] Value.none Value.none Value.none (Value.str "minismt.terms" 355) none (Value.ref 535) Value.none 0)) (List.toArray []))) ::
   (nat_lit 566, (Obj.mk (Value.type "dict") none (Data.dict (List.toArray [(DictEntry.mk (PyData.keyHash P "__module__") (Value.str "__module__" 803) (Value.str "minismt.terms" 355)), (DictEntry.mk (PyData.keyHash P "__firstlineno__") (Value.str "__firstlineno__" 807) (Value.int 247 806)), (DictEntry.mk (PyData.keyHash P "not_of") (Value.str "not_of" 815) (Value.ref 480)), (DictEntry.mk (PyData.keyHash P "and_of") (Value.str "and_of" 823) (Value.ref 487)), (DictEntry.mk (PyData.keyHash P "or_of") (Value.str "or_of" 831) (Value.ref 494)), (DictEntry.mk (PyData.keyHash P "xor_of") (Value.str "xor_of" 840) (Value.ref 501)), (DictEntry.mk (PyData.keyHash P "implies_of") (Value.str "implies_of" 849) (Value.ref 508)), (DictEntry.mk (PyData.keyHash P "iff") (Value.str "iff" 858) (Value.ref 515)), (DictEntry.mk (PyData.keyHash P "eq") (Value.str "eq" 867) (Value.ref 522)), (DictEntry.mk (PyData.keyHash P "distinct") (Value.str "distinct" 875) (Value.ref 529)), (DictEntry.mk (PyData.keyHash P "ite") (Value.str "ite" 885) (Value.ref 536)), (DictEntry.mk (PyData.keyHash P "app") (Value.str "app" 897) (Value.ref 543)), (DictEntry.mk (PyData.keyHash P "folded") (Value.str "folded" 906) (Value.ref 550)), (DictEntry.mk (PyData.keyHash P "with_args") (Value.str "with_args" 915) (Value.ref 557)), (DictEntry.mk (PyData.keyHash P "replaced") (Value.str "replaced" 924) (Value.ref 564)), (DictEntry.mk (PyData.keyHash P "__static_attributes__") (Value.str "__static_attributes__" 925) (Value.ref 565)), (DictEntry.mk (PyData.keyHash P "__doc__") (Value.str "__doc__" 926) Value.none)]) 2) (List.toArray []))) ::
   (nat_lit 567, (Obj.mk (Value.type "type") none (Data.cls (ClassData.mk "BoolBank" [(Value.ref 462)] [(Value.ref 567), (Value.ref 462), (Value.type "object")] 566 "BoolBank" Bool.true [] [(Value.ref 663)] Bool.false none Bool.false)) (List.toArray [(some (Value.ref 467)), none, (some (Value.str "BoolBank" 796)), (some (Value.str "BoolBank" 804)), (some (Value.builtin "object.__new__")), (some (Value.bool Bool.true))]))) ::
   (nat_lit 662, (Obj.mk (Value.type "dict") none (Data.dict (List.toArray [(DictEntry.mk (PyData.keyHash P "__module__") (Value.str "__module__" 943) (Value.str "minismt.terms" 355)), (DictEntry.mk (PyData.keyHash P "__firstlineno__") (Value.str "__firstlineno__" 947) (Value.int 318 946)), (DictEntry.mk (PyData.keyHash P "num") (Value.str "num" 956) (Value.ref 590)), (DictEntry.mk (PyData.keyHash P "want_number") (Value.str "want_number" 965) (Value.ref 597)), (DictEntry.mk (PyData.keyHash P "plus") (Value.str "plus" 973) (Value.ref 604)), (DictEntry.mk (PyData.keyHash P "times_num") (Value.str "times_num" 983) (Value.ref 611)), (DictEntry.mk (PyData.keyHash P "times") (Value.str "times" 992) (Value.ref 618)), (DictEntry.mk (PyData.keyHash P "over_num") (Value.str "over_num" 1001) (Value.ref 625)), (DictEntry.mk (PyData.keyHash P "negative") (Value.str "negative" 1009) (Value.ref 632)), (DictEntry.mk (PyData.keyHash P "minus") (Value.str "minus" 1018) (Value.ref 639)), (DictEntry.mk (PyData.keyHash P "le") (Value.str "le" 1027) (Value.ref 646)), (DictEntry.mk (PyData.keyHash P "lt") (Value.str "lt" 1036) (Value.ref 653)), (DictEntry.mk (PyData.keyHash P "with_args") (Value.str "with_args" 1045) (Value.ref 660)), (DictEntry.mk (PyData.keyHash P "__static_attributes__") (Value.str "__static_attributes__" 1046) (Value.ref 661)), (DictEntry.mk (PyData.keyHash P "__doc__") (Value.str "__doc__" 1047) Value.none)]) 2) (List.toArray []))) ::
   (nat_lit 663, (Obj.mk (Value.type "type") none (Data.cls (ClassData.mk "NumberBank" [(Value.ref 567)] [(Value.ref 663), (Value.ref 567), (Value.ref 462), (Value.type "object")] 662 "NumberBank" Bool.true [] [(Value.ref 782)] Bool.false none Bool.false)) (List.toArray [(some (Value.ref 577)), none, (some (Value.str "NumberBank" 936)), (some (Value.str "NumberBank" 944)), (some (Value.builtin "object.__new__")), (some (Value.bool Bool.true))]))) ::
   (nat_lit 669, (Obj.mk (Value.type "cell") none (Data.cell (some (Value.ref 782))) (List.toArray []))) ::
   (nat_lit 674, (Obj.mk (Value.type "tuple") none (Data.seq (List.toArray [(Value.ref 669)]) 0) (List.toArray []))) ::
   (nat_lit 680, (Obj.mk (Value.type "code") none (Data.fields (List.toArray [(Value.str "__init__" 1062), (Value.str "TermBank.__init__" 1063), (Value.str "/claim/cut.py" 1064), (Value.int 370 0), (Value.int 1 0), (Value.int 0 0), (Value.int 0 0), (Value.int 3 0), (Value.ref 675), (Value.bool Bool.true), (Value.int 181 0), (Value.ref 676), Value.none, (Value.ref 677), (Value.ref 678), (Value.ref 679), (Value.int 1067 0), (Value.int 370 0), (Value.str "/claim/cut.py" 1068)])) (List.toArray []))) ::
   (nat_lit 681, (Obj.mk (Value.type "function") none (Data.func (FuncData.mk "__init__" "TermBank.__init__" (fdArgs (defIn 39 0)) (FuncBody.stmts (fdBody (defIn 39 0))) (fdScope (defIn 39 0)) 3 [("__class__", 669)] Value.none Value.none Value.none (Value.str "minismt.terms" 355) none (Value.ref 680) (Value.ref 674) 0)) (List.toArray []))) ::
   (nat_lit 781, (Obj.mk (Value.type "dict") none (Data.dict (List.toArray [(DictEntry.mk (PyData.keyHash P "__module__") (Value.str "__module__" 1057) (Value.str "minismt.terms" 355)), (DictEntry.mk (PyData.keyHash P "__firstlineno__") (Value.str "__firstlineno__" 1061) (Value.int 368 1060)), (DictEntry.mk (PyData.keyHash P "__init__") (Value.str "__init__" 1069) (Value.ref 681)), (DictEntry.mk (PyData.keyHash P "bv_sort") (Value.str "bv_sort" 1077) (Value.ref 688)), (DictEntry.mk (PyData.keyHash P "find_bv_sort") (Value.str "find_bv_sort" 1085) (Value.ref 695)), (DictEntry.mk (PyData.keyHash P "want_bits") (Value.str "want_bits" 1094) (Value.ref 702)), (DictEntry.mk (PyData.keyHash P "bv_num") (Value.str "bv_num" 1103) (Value.ref 709)), (DictEntry.mk (PyData.keyHash P "bv_one") (Value.str "bv_one" 1112) (Value.ref 716)), (DictEntry.mk (PyData.keyHash P "bv_two") (Value.str "bv_two" 1122) (Value.ref 723)), (DictEntry.mk (PyData.keyHash P "concat") (Value.str "concat" 1131) (Value.ref 730)), (DictEntry.mk (PyData.keyHash P "extract") (Value.str "extract" 1141) (Value.ref 737)), (DictEntry.mk (PyData.keyHash P "zero_extend") (Value.str "zero_extend" 1150) (Value.ref 744)), (DictEntry.mk (PyData.keyHash P "sign_extend") (Value.str "sign_extend" 1159) (Value.ref 751)), (DictEntry.mk (PyData.keyHash P "want_place") (Value.str "want_place" 1169) (Value.ref 758)), (DictEntry.mk (PyData.keyHash P "bit") (Value.str "bit" 1178) (Value.ref 765)), (DictEntry.mk (PyData.keyHash P "carry") (Value.str "carry" 1188) (Value.ref 772)), (DictEntry.mk (PyData.keyHash P "below") (Value.str "below" 1198) (Value.ref 779)), (DictEntry.mk (PyData.keyHash P "__static_attributes__") (Value.str "__static_attributes__" 1200) (Value.ref 780)), (DictEntry.mk (PyData.keyHash P "__doc__") (Value.str "__doc__" 1202) Value.none)]) 3) (List.toArray []))) ::
   (nat_lit 782, (Obj.mk (Value.type "type") none (Data.cls (ClassData.mk "TermBank" [(Value.ref 663)] [(Value.ref 782), (Value.ref 663), (Value.ref 567), (Value.ref 462), (Value.type "object")] 781 "TermBank" Bool.true [] [] Bool.false none Bool.false)) (List.toArray [(some (Value.ref 666)), none, (some (Value.str "TermBank" 1050)), (some (Value.str "TermBank" 1058)), (some (Value.builtin "object.__new__")), (some (Value.bool Bool.true))]))) ::
   (nat_lit 791, (Obj.mk (Value.type "code") none (Data.fields (List.toArray [(Value.str "plain_value" 1210), (Value.str "plain_value" 1211), (Value.str "/claim/cut.py" 1212), (Value.int 447 0), (Value.int 2 0), (Value.int 0 0), (Value.int 0 0), (Value.int 3 0), (Value.ref 786), (Value.bool Bool.true), (Value.int 181 0), (Value.ref 787), Value.none, (Value.ref 788), (Value.ref 789), (Value.ref 790), (Value.int 1215 0), (Value.int 447 0), (Value.str "/claim/cut.py" 1216)])) (List.toArray []))) ::
   (nat_lit 792, (Obj.mk (Value.type "function") none (Data.func (FuncData.mk "plain_value" "plain_value" (fdArgs (defAt 42)) (FuncBody.stmts (fdBody (defAt 42))) (fdScope (defAt 42)) 3 [] Value.none Value.none Value.none (Value.str "minismt.models" 1205) none (Value.ref 791) Value.none 0)) (List.toArray []))) ::
   (nat_lit 805, (Obj.mk (Value.type "code") none (Data.fields (List.toArray [(Value.str "__init__" 1230), (Value.str "Model.__init__" 1231), (Value.str "/claim/cut.py" 1232), (Value.int 457 0), (Value.int 2 0), (Value.int 0 0), (Value.int 0 0), (Value.int 3 0), (Value.ref 800), (Value.bool Bool.true), (Value.int 181 0), (Value.ref 801), Value.none, (Value.ref 802), (Value.ref 803), (Value.ref 804), (Value.int 1235 0), (Value.int 457 0), (Value.str "/claim/cut.py" 1236)])) (List.toArray []))) ::
   (nat_lit 806, (Obj.mk (Value.type "function") none (Data.func (FuncData.mk "__init__" "Model.__init__" (fdArgs (defIn 43 0)) (FuncBody.stmts (fdBody (defIn 43 0))) (fdScope (defIn 43 0)) 3 [] Value.none Value.none Value.none (Value.str "minismt.models" 1205) none (Value.ref 805) Value.none 0)) (List.toArray []))) ::
   (nat_lit 812, (Obj.mk (Value.type "code") none (Data.fields (List.toArray [(Value.str "set_row" 1238), (Value.str "Model.set_row" 1239), (Value.str "/claim/cut.py" 1240), (Value.int 462 0), (Value.int 4 0), (Value.int 0 0), (Value.int 0 0), (Value.int 3 0), (Value.ref 807), (Value.bool Bool.true), (Value.int 181 0), (Value.ref 808), Value.none, (Value.ref 809), (Value.ref 810), (Value.ref 811), (Value.int 1246 0), (Value.int 462 0), (Value.str "/claim/cut.py" 1247)])) (List.toArray []))) ::
   (nat_lit 813, (Obj.mk (Value.type "function") none (Data.func (FuncData.mk "set_row" "Model.set_row" (fdArgs (defIn 43 1)) (FuncBody.stmts (fdBody (defIn 43 1))) (fdScope (defIn 43 1)) 3 [] Value.none Value.none Value.none (Value.str "minismt.models" 1205) none (Value.ref 812) Value.none 0)) (List.toArray []))) ::
   (nat_lit 840, (Obj.mk (Value.type "code") none (Data.fields (List.toArray [(Value.str "other" 1275), (Value.str "Model.other" 1276), (Value.str "/claim/cut.py" 1277), (Value.int 476 0), (Value.int 2 0), (Value.int 0 0), (Value.int 0 0), (Value.int 3 0), (Value.ref 835), (Value.bool Bool.true), (Value.int 181 0), (Value.ref 836), Value.none, (Value.ref 837), (Value.ref 838), (Value.ref 839), (Value.int 1280 0), (Value.int 476 0), (Value.str "/claim/cut.py" 1281)])) (List.toArray []))) ::
   (nat_lit 841, (Obj.mk (Value.type "function") none (Data.func (FuncData.mk "other" "Model.other" (fdArgs (defIn 43 5)) (FuncBody.stmts (fdBody (defIn 43 5))) (fdScope (defIn 43 5)) 3 [] Value.none Value.none Value.none (Value.str "minismt.models" 1205) none (Value.ref 840) Value.none 0)) (List.toArray []))) ::
   (nat_lit 847, (Obj.mk (Value.type "code") none (Data.fields (List.toArray [(Value.str "call" 1283), (Value.str "Model.call" 1284), (Value.str "/claim/cut.py" 1285), (Value.int 481 0), (Value.int 3 0), (Value.int 0 0), (Value.int 0 0), (Value.int 3 0), (Value.ref 842), (Value.bool Bool.true), (Value.int 181 0), (Value.ref 843), Value.none, (Value.ref 844), (Value.ref 845), (Value.ref 846), (Value.int 1289 0), (Value.int 481 0), (Value.str "/claim/cut.py" 1290)])) (List.toArray []))) ::
   (nat_lit 848, (Obj.mk (Value.type "function") none (Data.func (FuncData.mk "call" "Model.call" (fdArgs (defIn 43 6)) (FuncBody.stmts (fdBody (defIn 43 6))) (fdScope (defIn 43 6)) 3 [] Value.none Value.none Value.none (Value.str "minismt.models" 1205) none (Value.ref 847) Value.none 0)) (List.toArray []))) ::
   (nat_lit 854, (Obj.mk (Value.type "code") none (Data.fields (List.toArray [(Value.str "value" 1292), (Value.str "Model.value" 1293), (Value.str "/claim/cut.py" 1294), (Value.int 484 0), (Value.int 2 0), (Value.int 0 0), (Value.int 0 0), (Value.int 3 0), (Value.ref 849), (Value.bool Bool.true), (Value.int 181 0), (Value.ref 850), Value.none, (Value.ref 851), (Value.ref 852), (Value.ref 853), (Value.int 1297 0), (Value.int 484 0), (Value.str "/claim/cut.py" 1298)])) (List.toArray []))) ::
   (nat_lit 855, (Obj.mk (Value.type "function") none (Data.func (FuncData.mk "value" "Model.value" (fdArgs (defIn 43 7)) (FuncBody.stmts (fdBody (defIn 43 7))) (fdScope (defIn 43 7)) 3 [] Value.none Value.none Value.none (Value.str "minismt.models" 1205) none (Value.ref 854) Value.none 0)) (List.toArray []))) ::
   (nat_lit 864, (Obj.mk (Value.type "dict") none (Data.dict (List.toArray [(DictEntry.mk (PyData.keyHash P "__module__") (Value.str "__module__" 1225) (Value.str "minismt.models" 1205)), (DictEntry.mk (PyData.keyHash P "__firstlineno__") (Value.str "__firstlineno__" 1229) (Value.int 455 1228)), (DictEntry.mk (PyData.keyHash P "__init__") (Value.str "__init__" 1237) (Value.ref 806)), (DictEntry.mk (PyData.keyHash P "set_row") (Value.str "set_row" 1248) (Value.ref 813)), (DictEntry.mk (PyData.keyHash P "has_row") (Value.str "has_row" 1257) (Value.ref 820)), (DictEntry.mk (PyData.keyHash P "rows") (Value.str "rows" 1265) (Value.ref 827)), (DictEntry.mk (PyData.keyHash P "set_other") (Value.str "set_other" 1274) (Value.ref 834)), (DictEntry.mk (PyData.keyHash P "other") (Value.str "other" 1282) (Value.ref 841)), (DictEntry.mk (PyData.keyHash P "call") (Value.str "call" 1291) (Value.ref 848)), (DictEntry.mk (PyData.keyHash P "value") (Value.str "value" 1299) (Value.ref 855)), (DictEntry.mk (PyData.keyHash P "elements") (Value.str "elements" 1307) (Value.ref 862)), (DictEntry.mk (PyData.keyHash P "__static_attributes__") (Value.str "__static_attributes__" 1311) (Value.ref 863)), (DictEntry.mk (PyData.keyHash P "__dict__") (Value.str "__dict__" 1313) (Value.ref 866)), (DictEntry.mk (PyData.keyHash P "__weakref__") (Value.str "__weakref__" 1315) (Value.ref 867)), (DictEntry.mk (PyData.keyHash P "__doc__") (Value.str "__doc__" 1316) Value.none)]) 4) (List.toArray []))) ::
   (nat_lit 865, (Obj.mk (Value.type "type") none (Data.cls (ClassData.mk "Model" [(Value.type "object")] [(Value.ref 865), (Value.type "object")] 864 "Model" Bool.true [] [] Bool.false none Bool.false)) (List.toArray [none, none, (some (Value.str "Model" 1218)), (some (Value.str "Model" 1226)), (some (Value.builtin "object.__new__")), (some (Value.bool Bool.true))]))) ::
   (nat_lit 896, (Obj.mk (Value.type "code") none (Data.fields (List.toArray [(Value.str "connected" 1354), (Value.str "connected" 1355), (Value.str "/claim/cut.py" 1356), (Value.int 524 0), (Value.int 2 0), (Value.int 0 0), (Value.int 0 0), (Value.int 3 0), (Value.ref 891), (Value.bool Bool.true), (Value.int 181 0), (Value.ref 892), Value.none, (Value.ref 893), (Value.ref 894), (Value.ref 895), (Value.int 1359 0), (Value.int 524 0), (Value.str "/claim/cut.py" 1360)])) (List.toArray []))) ::
   (nat_lit 897, (Obj.mk (Value.type "function") none (Data.func (FuncData.mk "connected" "connected" (fdArgs (defAt 47)) (FuncBody.stmts (fdBody (defAt 47))) (fdScope (defAt 47)) 3 [] Value.none Value.none Value.none (Value.str "minismt.models" 1205) none (Value.ref 896) Value.none 0)) (List.toArray []))) ::
   (nat_lit 901, (Obj.mk (Value.type "code") none (Data.fields (List.toArray [(Value.str "worked_out" 1362), (Value.str "worked_out" 1363), (Value.str "/claim/cut.py" 1364), (Value.int 536 0), (Value.int 3 0), (Value.int 0 0), (Value.int 0 0), (Value.int 3 0), (Value.ref 898), (Value.bool Bool.true), (Value.int 181 0), (Value.ref 899), Value.none, Value.none, Value.none, (Value.ref 900), (Value.int 1365 0), (Value.int 536 0), (Value.str "/claim/cut.py" 1366)])) (List.toArray []))) ::
   (nat_lit 902, (Obj.mk (Value.type "function") none (Data.func (FuncData.mk "worked_out" "worked_out" (fdArgs (defAt 48)) (FuncBody.stmts (fdBody (defAt 48))) (fdScope (defAt 48)) 3 [] Value.none Value.none Value.none (Value.str "minismt.models" 1205) none (Value.ref 901) Value.none 0)) (List.toArray []))) ::
   (nat_lit 908, (Obj.mk (Value.type "code") none (Data.fields (List.toArray [(Value.str "evaluate" 1368), (Value.str "evaluate" 1369), (Value.str "/claim/cut.py" 1370), (Value.int 559 0), (Value.int 3 0), (Value.int 0 0), (Value.int 0 0), (Value.int 3 0), (Value.ref 903), (Value.bool Bool.true), (Value.int 181 0), (Value.ref 904), Value.none, (Value.ref 905), (Value.ref 906), (Value.ref 907), (Value.int 1374 0), (Value.int 559 0), (Value.str "/claim/cut.py" 1375)])) (List.toArray []))) ::
   (nat_lit 909, (Obj.mk (Value.type "function") none (Data.func (FuncData.mk "evaluate" "evaluate" (fdArgs (defAt 49)) (FuncBody.stmts (fdBody (defAt 49))) (fdScope (defAt 49)) 3 [] Value.none Value.none Value.none (Value.str "minismt.models" 1205) none (Value.ref 908) Value.none 0)) (List.toArray []))) ::
   (nat_lit 913, (Obj.mk (Value.type "code") none (Data.fields (List.toArray [(Value.str "evaluate_all" 1377), (Value.str "evaluate_all" 1378), (Value.str "/claim/cut.py" 1379), (Value.int 561 0), (Value.int 3 0), (Value.int 0 0), (Value.int 0 0), (Value.int 3 0), (Value.ref 910), (Value.bool Bool.true), (Value.int 181 0), (Value.ref 911), Value.none, Value.none, Value.none, (Value.ref 912), (Value.int 1380 0), (Value.int 561 0), (Value.str "/claim/cut.py" 1381)])) (List.toArray []))) ::
   (nat_lit 914, (Obj.mk (Value.type "function") none (Data.func (FuncData.mk "evaluate_all" "evaluate_all" (fdArgs (defAt 50)) (FuncBody.stmts (fdBody (defAt 50))) (fdScope (defAt 50)) 3 [] Value.none Value.none Value.none (Value.str "minismt.models" 1205) none (Value.ref 913) Value.none 0)) (List.toArray []))) ::
   (nat_lit 920, (Obj.mk (Value.type "code") none (Data.fields (List.toArray [(Value.str "_law_next" 1385), (Value.str "_law_next" 1386), (Value.str "/claim/cut.py" 1387), (Value.int 571 0), (Value.int 2 0), (Value.int 0 0), (Value.int 0 0), (Value.int 3 0), (Value.ref 915), (Value.bool Bool.true), (Value.int 181 0), (Value.ref 916), Value.none, (Value.ref 917), (Value.ref 918), (Value.ref 919), (Value.int 1391 0), (Value.int 571 0), (Value.str "/claim/cut.py" 1392)])) (List.toArray []))) ::
   (nat_lit 921, (Obj.mk (Value.type "function") none (Data.func (FuncData.mk "_law_next" "_law_next" (fdArgs (defAt 52)) (FuncBody.stmts (fdBody (defAt 52))) (fdScope (defAt 52)) 3 [] Value.none Value.none Value.none (Value.str "law_qz0034_01" 1383) none (Value.ref 920) Value.none 0)) (List.toArray []))) ::
   (nat_lit 927, (Obj.mk (Value.type "code") none (Data.fields (List.toArray [(Value.str "_law_worth" 1394), (Value.str "_law_worth" 1395), (Value.str "/claim/cut.py" 1396), (Value.int 577 0), (Value.int 2 0), (Value.int 0 0), (Value.int 0 0), (Value.int 3 0), (Value.ref 922), (Value.bool Bool.true), (Value.int 181 0), (Value.ref 923), Value.none, (Value.ref 924), (Value.ref 925), (Value.ref 926), (Value.int 1399 0), (Value.int 577 0), (Value.str "/claim/cut.py" 1400)])) (List.toArray []))) ::
   (nat_lit 928, (Obj.mk (Value.type "function") none (Data.func (FuncData.mk "_law_worth" "_law_worth" (fdArgs (defAt 53)) (FuncBody.stmts (fdBody (defAt 53))) (fdScope (defAt 53)) 3 [] Value.none Value.none Value.none (Value.str "law_qz0034_01" 1383) none (Value.ref 927) Value.none 0)) (List.toArray []))) ::
   (nat_lit 932, (Obj.mk (Value.type "code") none (Data.fields (List.toArray [(Value.str "_law_words_right" 1402), (Value.str "_law_words_right" 1403), (Value.str "/claim/cut.py" 1404), (Value.int 587 0), (Value.int 1 0), (Value.int 0 0), (Value.int 0 0), (Value.int 3 0), (Value.ref 929), (Value.bool Bool.true), (Value.int 181 0), (Value.ref 930), Value.none, Value.none, Value.none, (Value.ref 931), (Value.int 1405 0), (Value.int 587 0), (Value.str "/claim/cut.py" 1406)])) (List.toArray []))) ::
   (nat_lit 933, (Obj.mk (Value.type "function") none (Data.func (FuncData.mk "_law_words_right" "_law_words_right" (fdArgs (defAt 54)) (FuncBody.stmts (fdBody (defAt 54))) (fdScope (defAt 54)) 3 [] Value.none Value.none Value.none (Value.str "law_qz0034_01" 1383) none (Value.ref 932) Value.none 0)) (List.toArray []))) ::
   (nat_lit 939, (Obj.mk (Value.type "code") none (Data.fields (List.toArray [(Value.str "_law_formula" 1408), (Value.str "_law_formula" 1409), (Value.str "/claim/cut.py" 1410), (Value.int 598 0), (Value.int 4 0), (Value.int 0 0), (Value.int 0 0), (Value.int 3 0), (Value.ref 934), (Value.bool Bool.true), (Value.int 181 0), (Value.ref 935), Value.none, (Value.ref 936), (Value.ref 937), (Value.ref 938), (Value.int 1419 0), (Value.int 598 0), (Value.str "/claim/cut.py" 1420)])) (List.toArray []))) ::
   (nat_lit 940, (Obj.mk (Value.type "function") none (Data.func (FuncData.mk "_law_formula" "_law_formula" (fdArgs (defAt 55)) (FuncBody.stmts (fdBody (defAt 55))) (fdScope (defAt 55)) 3 [] Value.none Value.none Value.none (Value.str "law_qz0034_01" 1383) none (Value.ref 939) Value.none 0)) (List.toArray []))) ::
   (nat_lit 944, (Obj.mk (Value.type "code") none (Data.fields (List.toArray [(Value.str "_law_values" 1422), (Value.str "_law_values" 1423), (Value.str "/claim/cut.py" 1424), (Value.int 618 0), (Value.int 3 0), (Value.int 0 0), (Value.int 0 0), (Value.int 3 0), (Value.ref 941), (Value.bool Bool.true), (Value.int 181 0), (Value.ref 942), Value.none, Value.none, Value.none, (Value.ref 943), (Value.int 1425 0), (Value.int 618 0), (Value.str "/claim/cut.py" 1426)])) (List.toArray []))) ::
   (nat_lit 945, (Obj.mk (Value.type "function") none (Data.func (FuncData.mk "_law_values" "_law_values" (fdArgs (defAt 56)) (FuncBody.stmts (fdBody (defAt 56))) (fdScope (defAt 56)) 3 [] Value.none Value.none Value.none (Value.str "law_qz0034_01" 1383) none (Value.ref 944) Value.none 0)) (List.toArray []))) ::
   (nat_lit 949, (Obj.mk (Value.type "code") none (Data.fields (List.toArray [(Value.str "law" 1428), (Value.str "law" 1429), (Value.str "/claim/cut.py" 1430), (Value.int 634 0), (Value.int 1 0), (Value.int 0 0), (Value.int 0 0), (Value.int 3 0), (Value.ref 946), (Value.bool Bool.true), (Value.int 181 0), (Value.ref 947), Value.none, Value.none, Value.none, (Value.ref 948), (Value.int 1431 0), (Value.int 634 0), (Value.str "/claim/cut.py" 1432)])) (List.toArray []))) ::
   (nat_lit 950, (Obj.mk (Value.type "function") none (Data.func (FuncData.mk "law" "law" (fdArgs (defAt 57)) (FuncBody.stmts (fdBody (defAt 57))) (fdScope (defAt 57)) 3 [] Value.none Value.none Value.none (Value.str "law_qz0034_01" 1383) none (Value.ref 949) Value.none 0)) (List.toArray []))) :: []
noncomputable def viewK : Program := view PySem.Challenge.pw_qz0034_01 [0,2,3,4,5,7,8,9,10,11,12,14,15,16,17,18,19,20,21,22,23,24,25,26,27,28,29,30,31,32,33,34,35,36,37,38,39,41,42,43,44,45,46,47,48,49,50,52,53,54,55,56,57]
/- Hh -/
noncomputable def pickAt : List Obj → List Addr → Nat → List (Option Obj)
  | [], as, _ => as.map fun _ => none
  | _ :: _, [], _ => []
  | o :: os, a :: as, i => match Nat.beq a i with
    | true => alive o :: pickAt os as (i + 1)
    | false => pickAt os (a :: as) (i + 1)
theorem pick_is : ∀ (os : List Obj) (ps : List (Addr × Obj)) (i : Nat), pickAt os (ps.map (·.1)) i = ps.map (fun p => some p.2) → ∀ p ∈ ps, i ≤ p.1 ∧ (os[p.1 - i]?).bind alive = some p.2
  | [], ps, i, h, p, hp => by
    cases ps with
    | nil => cases hp
    | cons q r => simp [pickAt] at h
  | o :: os, [], i, h, p, hp => by cases hp
  | o :: os, q :: r, i, h, p, hp => by
    simp only [List.map_cons, pickAt] at h
    cases hb : Nat.beq q.1 i with
    | true =>
      rw [hb] at h
      have e : q.1 = i := Nat.eq_of_beq_eq_true hb
      obtain ⟨h1, h2⟩ := List.cons.inj h
      rcases List.mem_cons.mp hp with rfl | hp
      · subst e
        refine ⟨Nat.le_refl _, ?_⟩
        simpa using h1
      · obtain ⟨h3, h4⟩ := pick_is os r (i + 1) h2 p hp
        have h5 : @LE.le Nat instLENat (i + 1) p.1 := h3
        refine ⟨Nat.le_of_succ_le h5, ?_⟩
        rw [show @Eq Nat (p.1 - i) ((p.1 - (i + 1)) + 1) by omega, List.getElem?_cons_succ]
        exact h4
    | false =>
      rw [hb] at h
      obtain ⟨h3, h4⟩ := pick_is os (q :: r) (i + 1) h p hp
      have h5 : @LE.le Nat instLENat (i + 1) p.1 := h3
      refine ⟨Nat.le_of_succ_le h5, ?_⟩
      rw [show @Eq Nat (p.1 - i) ((p.1 - (i + 1)) + 1) by omega, List.getElem?_cons_succ]
      exact h4
theorem get_alive (h : Heap) (a : Addr) : h.get? a = (h.objs.toList[a]?).bind alive := by
  unfold Heap.get?
  rw [Array.getElem?_toList]
  cases h.objs[a]? with
  | none => rfl
  | some o => obtain ⟨c, d, dt, sl⟩ := o; cases dt <;> rfl
theorem lookup_mem : ∀ (K : Frag) (a : Addr) (o : Obj), K.lookup a = some o → (a, o) ∈ K
  | [], _, _, h => by cases h
  | (b, x) :: r, a, o, h => by
    rw [List.lookup_cons] at h
    cases hb : a == b with
    | true => rw [hb] at h; have := eq_of_beq hb; subst this; cases h; exact List.mem_cons_self
    | false => rw [hb] at h; exact List.mem_cons_of_mem _ (lookup_mem r a o h)
noncomputable def addrsK : List Addr := [2, 3, 262, 263, 304, 305, 318, 319, 339, 340, 353, 354, 360, 361, 367, 368, 374, 375, 381, 382, 395, 396, 416, 417, 423, 424, 444, 445, 451, 452, 458, 459, 461, 462, 479, 480, 486, 487, 493, 494, 500, 501, 507, 508, 521, 522, 528, 529, 535, 536, 566, 567, 662, 663, 669, 674, 680, 681, 781, 782, 791, 792, 805, 806, 812, 813, 840, 841, 847, 848, 854, 855, 864, 865, 896, 897, 901, 902, 908, 909, 913, 914, 920, 921, 927, 928, 932, 933, 939, 940, 944, 945, 949, 950]
noncomputable def hookK : Hook :=
  ⟨List (Option Obj), fun s => pickAt s.heap.objs.toList addrsK 0, fun w => (heapK w.params).map fun p => some p.2, InK heapK,
   fun w s h => by
     have e : addrsK = (heapK w.params).map (·.1) := by kernel_rfl
     rw [e] at h
     intro a o ho
     rw [get_alive]
     exact (pick_is _ _ _ h (a, o) (lookup_mem _ _ _ ho)).2,
   InK.keeps⟩
/- He -/
set_option maxHeartbeats 0
noncomputable def envK : Env := { scope := PySem.Challenge.pw_qz0034_01.main.scope, locals := mainNs, globals := mainNs, cells := [], code := Value.ref 13, frame := some 14 }
noncomputable abbrev looseK : List Str := [Str.ofString "MOST_BITS"]
noncomputable abbrev lvK : List (Str × WData) := [(Str.ofString "MOST_BITS", WData.int 65536)]
noncomputable abbrev rowK : RowW := PySem.Challenge.rw_qz0034_01.row.toRowW
noncomputable abbrev xtK : Shared → Bool := fun s => xlAt viewK lvK s && recOk (RowW.records rowK) s
theorem ends1 : ∀ w, (endsT treeTable PySem.Challenge.pw_qz0034_01 w envK 9000 12000).map (fun x => (x.1, seen ((recsOf viewK).map (·.name)) (ownsOf viewK) [] { x.2 with gens := #[] }, x.2.heap.bltView, pinSeenD viewK (drecsOf viewK) x.2, pickAt x.2.heap.objs.toList addrsK 0)) =
    some (hdrOf treeTable PySem.Challenge.pw_qz0034_01 envK, expectedOf viewK, bltViewBooted, pinGoodD (drecsOf viewK), (heapK w.params).map fun p => some p.2) := fun w => by
  unfold endsT topT hdrOf fencedOpening
  rw [PySem.W.Fast.te11892475500146522536, PySem.W.Fast.te15667345088766844465, PySem.W.Fast.te14374325043358763698, PySem.W.Fast.te10110043849684766642, PySem.W.Fast.te14082659384304107361, PySem.W.Fast.te10274390034422433532, PySem.W.Fast.te14289696077712309145, PySem.W.Fast.te1435165496053646825, PySem.W.Fast.te14364793385576792824]
  kernel_rfl
theorem ends2 : ∀ w, (endsT treeTable PySem.Challenge.pw_qz0034_01 w envK 9000 12000).map (fun x => (x.2.heap.keysOk (looseW viewK looseK) ((recsOf viewK).map (·.name)) ((litsOf viewK).map (·.1)) ((clssOf viewK (looseW viewK looseK)).map (·.name)) && x.2.heap.accountedOkI (importedModules PySem.Challenge.pw_qz0034_01.main.body) && x.2.heap.isNs mainGlobals && x.2.heap.isNs builtinsNs && tablesOk viewK x.2.heap && xtK x.2 && x.2.gens.size == 0,
     tabsOk viewK x.2, plainSeenD viewK looseK x.2, wideSeen viewK x.2, clsSeenW viewK looseK x.2)) =
    some (true, true, plainGoodD viewK looseK, wideGood viewK, clsGoodW viewK looseK) := fun w => by
  unfold endsT topT fencedOpening
  rw [PySem.W.Fast.te15667345088766844465, PySem.W.Fast.te14374325043358763698, PySem.W.Fast.te10110043849684766642, PySem.W.Fast.te14082659384304107361, PySem.W.Fast.te10274390034422433532, PySem.W.Fast.te14289696077712309145, PySem.W.Fast.te1435165496053646825, PySem.W.Fast.te14364793385576792824]
  kernel_rfl
theorem ends3 : ∀ w, (endsT treeTable PySem.Challenge.pw_qz0034_01 w envK 9000 12000).map (fun x => plainSeenE viewK (looseW viewK looseK) x.2) =
    some (plainGoodE viewK (looseW viewK looseK)) := fun w => by
  unfold endsT topT fencedOpening
  rw [PySem.W.Fast.te15667345088766844465, PySem.W.Fast.te14374325043358763698, PySem.W.Fast.te10110043849684766642, PySem.W.Fast.te14082659384304107361, PySem.W.Fast.te10274390034422433532, PySem.W.Fast.te14289696077712309145, PySem.W.Fast.te1435165496053646825, PySem.W.Fast.te14364793385576792824]
  kernel_rfl
theorem leftK : LeftO PySem.Challenge.pw_qz0034_01 viewK looseK xtK (Hook.obs hookK) (Hook.val hookK) 12000 :=
  leftO_of (env := envK) (N := 9000) rfl fun w => by
    obtain ⟨x, e1, h1⟩ := Option.map_eq_some_iff.mp (ends1 w)
    obtain ⟨x2, e2, h2⟩ := Option.map_eq_some_iff.mp (ends2 w)
    obtain ⟨x3, e3, h3⟩ := Option.map_eq_some_iff.mp (ends3 w)
    obtain rfl := Option.some.inj (e1.symm.trans e2)
    obtain rfl := Option.some.inj (e1.symm.trans e3)
    rw [e1]
    simp only [Prod.mk.injEq] at h1 h2
    obtain ⟨a1, a2, a3, a4, a5⟩ := h1
    obtain ⟨b1, b2, b3, b4, b5⟩ := h2
    refine congrArg some (Prod.ext a1 (Prod.ext (Prod.ext a2 (Prod.ext a3 (Prod.ext ?_ (Prod.ext b2 (Prod.ext a4 (Prod.ext h3 (Prod.ext b3 (Prod.ext b4 b5)))))))) a5))
    exact b1
set_option maxHeartbeats 0 in
theorem law_said : PySem.Challenge.rw_qz0034_01.wellSaid = true := by
  rw [PySem.W.Fast.te9446332074065402090]
  kernel_rfl
/- Base -/
/- what shows a rule's premise, where nothing else is said -/
def kA : Lean.Syntax := Lean.Unhygienic.run `(tacticSeq| with_reducible assumption)
def kR : Lean.Syntax := Lean.Unhygienic.run `(tacticSeq| exact rfl)
def kK : Lean.Syntax := Lean.Unhygienic.run `(tacticSeq| kernel_rfl!)
def kM : Lean.Syntax := Lean.Unhygienic.run `(tacticSeq| k_mem)
def kO : Lean.Syntax := Lean.Unhygienic.run `(tacticSeq| omega)
def kU : Lean.Syntax := Lean.Unhygienic.run `(tacticSeq| k_upd)
def kV : Lean.Syntax := Lean.Unhygienic.run `(tacticSeq| k_updF)
def kW : Lean.Syntax := Lean.Unhygienic.run `(tacticSeq| with_unfolding_all rfl)
def kP : Lean.Syntax := Lean.Unhygienic.run `(tacticSeq| passes_own)
def kS : Lean.Syntax := Lean.Unhygienic.run `(tacticSeq| kst_all)
def kT : Lean.Syntax := Lean.Unhygienic.run `(tacticSeq| ktr_units)
def kN : Lean.Syntax := Lean.Unhygienic.run `(tacticSeq| exact Top.nolimit (by assumption))
noncomputable abbrev Led := List (Addr × Obj)
/-- what stands around a frame: one letter -/
structure KK where
  dp : Nat
  un : Nat
  gd : Option (List Code)
  outer : List Env
noncomputable abbrev ktrK (cn : Str) (cs : Scope) (a : Addr) (ccd : Value) (cl : List (Str × Addr)) (K : KK) (L : Addr) : Around := ktrTop K.dp K.un K.gd cn cs L a ccd cl K.outer
/-- the static part of a frame's context: what stands below it -/
noncomputable def Cx (w : World) (outer : List Env) (g : Heap) : Prop :=
  ∃ (A₀ : Around) (base : Heap) (mean : ExcName → Option Value) (mg mb : Str → Option Value), Below A₀ base outer g ∧ (heapK w.params).In g ∧ Top viewK (looseW viewK [Str.ofString "MOST_BITS"]) mean mg mb g
noncomputable def Back (g : Heap) (L : Addr) (gs : Array GenState) (dr : Drawn) (os : OsState) (Post : Value → Led → Prop) (fl : Flow) (s' : Shared) : Prop :=
  ∃ v h' tk m' news', (match fl with | .ret v => v | _ => .none) = v ∧ s' = ⟨h', gs, dr, tk, os⟩ ∧ Fr g L h' m' ∧ News g L h' news' ∧ Post v news'
/-- a def's contract -/
noncomputable def Does (w : World) (f : Addr) (args : List Value) (D U : Nat) (news : Led) (Post : Value → Led → Prop) : Prop :=
  ∀ (dp un : Nat) (gd : Option (List Code)) (cn : Str) (cs : Scope) (L a : Addr) (ccd : Value) (cl : List (Str × Addr)) (outer : List Env) (g : Heap) (m : Str → Option Value) (s : Shared) (Q E : Value → Shared → Prop),
    Cx w outer g → Fr g L s.heap m → News g L s.heap news → cs.kind = .function → dp ≤ D → un ≤ U →
    (∀ v h' tk news', Fr g L h' m → News g L h' news' → Post v news' → Q v ⟨h', s.gens, s.drawn, tk, s.os⟩) →
    wpAny (model PySem.Challenge.rw_qz0034_01.row.prog w) (ktrTop dp un gd cn cs L a ccd cl outer) (call (.ref f) args) Q E s
theorem does_intro {w : World} {f : Addr} {args : List Value} {D U : Nat} {news : Led} {Post : Value → Led → Prop}
    {name qual : Str} {params : Arguments} {body : List Stmt} {scope : Scope} {dV kV doc pm cdv ct oc : Value} {an od : Option Addr} {osl : Array (Option Value)} {binds rb : List (Str × Value)}
    (ho : (heapK w.params).lookup f = some ⟨oc, od, .func (fnOf name qual params body scope dV kV doc pm an cdv ct), osl⟩) (hcd : codeIn (heapK w.params) cdv qual = true) (hD : D < 900)
    (hbind : bindArgs (fnOf name qual params body scope dV kV doc pm an cdv ct) ⟨args, []⟩ = pure binds) (hrb : binds.reverse = rb) (hloc : (binds.all fun x => decide (scope.names.lookup x.1 = some .local)) = true)
    (hco : scope.isCoroutine = false) (hgen : scope.isGenerator = false) (hk : scope.kind = .function) (hcell : ∀ x ∈ scope.names, x.2 ≠ .cell)
    (h : ∀ (dp un : Nat) (gd : Option (List Code)) (outer : List Env) (A₀ : Around) (base : Heap) (mean : ExcName → Option Value) (mg mb : Str → Option Value) (g : Heap) (L : Addr) (h : Heap) (gs : Array GenState) (dr : Drawn) (os : OsState) (tk : Nat) (Q : Flow → Shared → Prop),
      Below A₀ base outer g → (heapK w.params).In g → Top viewK (looseW viewK [Str.ofString "MOST_BITS"]) mean mg mb g →
      Fr g L h (fun y => rb.lookup y) → News g L h news → (∀ p ∈ news, p.1 < L) → dp ≤ D + 1 → un ≤ U + 3 →
      (∀ fl s', Back g L gs dr os Post fl s' → Q fl s') →
      wpAny (model PySem.Challenge.rw_qz0034_01.row.prog w) (ktrTop dp un gd qual scope L f cdv [] outer) (execs body (envX qual scope L f cdv [])) Q (fun _ _ => False) ⟨h, gs, dr, tk, os⟩) :
    Does w f args D U news Post := by
  intro dp un gd cn cs L a ccd cl outer g m s Q E ⟨A₀, base, mean, mg, mb, B, X, T⟩ F N hcs hdp hun hret
  refine wpAny_call ?_
  refine callX_plain (A := ktrTop dp un gd cn cs L a ccd cl outer) (cl := []) B F N T.nolimit rfl rfl hcs ((X.keeps F.keep) _ _ ho) rfl (codeRec_of (X.keeps F.keep) hcd) (by show dp < recursionLimit; unfold recursionLimit; omega) (BindsTo.of_eq hbind) (locs hloc) (fun g' L' h₁ FG F' N' B' st lt => ?_) hcell hco hgen hk
  subst hrb
  have := h (dp + 1) (un + 3) gd (envX cn cs L a ccd cl :: outer) (ktrTop dp un gd cn cs L a ccd cl outer) base mean mg mb g' L' h₁ s.gens s.drawn s.os (s.toks + binds.length)
    (fun fl s' => LeaveK g L m g' (fun r s' => match r with | .ok (.ret v) => Q v s' | .ok _ => False | .error e => E e s') (match fl with | .ret v => v | _ => .none) s')
    B' (X.keeps fun b o e => st b o e) (T.keeps fun b o e => st b o e) F' N' lt (by omega) (by omega)
    (by
      rintro fl s' ⟨v, h', tk, m', news', hv, rfl, F₁, N₁, hp⟩
      exact leaveK_ F₁ N₁ fun F₂ N₂ => by rw [hv]; exact hret v h' tk news' F₂ N₂ hp)
  exact wpAny_mono this (fun _ _ x => x) (fun _ _ x => x.elim)
theorem Does.use {w : World} {f : Addr} {args : List Value} {D U : Nat} {news : Led} {Post : Value → Led → Prop} (d : Does w f args D U news Post)
    {dp un : Nat} {gd : Option (List Code)} {cn : Str} {cs : Scope} {L a : Addr} {ccd : Value} {cl : List (Str × Addr)} {outer : List Env} {A₀ : Around} {base g : Heap} {mean : ExcName → Option Value} {mg mb : Str → Option Value} {m : Str → Option Value} {s : Shared} {Q E : Value → Shared → Prop}
    (B : Below A₀ base outer g) (X : (heapK w.params).In g) (T : Top viewK (looseW viewK [Str.ofString "MOST_BITS"]) mean mg mb g) (F : Fr g L s.heap m) (N : News g L s.heap news) (hk : cs.kind = .function) (hdp : dp ≤ D) (hun : un ≤ U)
    (ret : ∀ v h' tk news', Fr g L h' m → News g L h' news' → Post v news' → Q v ⟨h', s.gens, s.drawn, tk, s.os⟩) :
    wpAny (model PySem.Challenge.rw_qz0034_01.row.prog w) (ktrTop dp un gd cn cs L a ccd cl outer) (call (.ref f) args) Q E s :=
  d dp un gd cn cs L a ccd cl outer g m s Q E ⟨A₀, base, mean, mg, mb, B, X, T⟩ F N hk hdp hun ret
theorem back {g : Heap} {L : Addr} {gs : Array GenState} {dr : Drawn} {os : OsState} {Post : Value → Led → Prop} {fl : Flow} {v : Value} {h' : Heap} {tk : Nat} {m' : Str → Option Value} {news' : Led}
    (F : Fr g L h' m') (N : News g L h' news') (hv : (match fl with | .ret v => v | _ => .none) = v) (hp : Post v news') : Back g L gs dr os Post fl ⟨h', gs, dr, tk, os⟩ := ⟨v, h', tk, m', news', hv, rfl, F, N, hp⟩
theorem News.isList {g h : Heap} {L l : Addr} {news : Led} {its : Array Value} {n : Nat} (N : News g L h news) (hm : (l, listOf its n) ∈ news) : h.IsList l its := ⟨_, N.get hm, rfl, n, rfl⟩
theorem mem_consAll {l l' : Led} {q : Addr × Obj} (h : ∀ p ∈ l, p ∈ l') : ∀ p ∈ l, p ∈ q :: l' := fun p hp => .tail _ (h p hp)
theorem all_nil {l : Led} : ∀ p ∈ ([] : Led), p ∈ l := fun _ hp => nomatch hp
theorem all_cons {l r : Led} {q : Addr × Obj} (h : q ∈ l) (hr : ∀ p ∈ r, p ∈ l) : ∀ p ∈ q :: r, p ∈ l := fun _ hp => (List.mem_cons.mp hp).elim (fun e => e ▸ h) (hr _)
section
variable {prog : Program} {w : World} {g : Heap} {L : Addr} {A : Around} {E : Value → Shared → Prop} {s : Shared} {l : Addr} {m : Str → Option Value} {news : Led}
theorem len_N {its : Array Value} {n : Nat} {Q : Value → Shared → Prop} (N : News g L s.heap news) (hm : (l, listOf its n) ∈ news) (hfit : (its.size : Int) < 2 ^ 63)
    (h : Q (.int its.size (s.toks + 1)) { s with toks := s.toks + 1 + 1 }) : wpAny (model prog w) A (call (.builtin "len") [.ref l]) Q E s := len_list (Mine.News.isList N hm) hfit h
theorem item_N {value slice : Expr} {its : List Value} {n : Nat} {k : Int} {u : Tok} {x : Value} {Q : Value → Shared → Prop} (N : News g L s.heap news) (hm : (l, listOf its.toArray n) ∈ news)
    (h0 : 0 ≤ k) (hfit : k < 2 ^ 63) (hx : its[k.toNat]? = some x) (h : Q x s)
    (hs : subscripted slice false (.ref l) (.int k u) = operate [.ref l, .int k u] (getItem (.ref l) (.int k u)) := by with_unfolding_all rfl) :
    wpAny (model prog w) A (subscriptTail value slice (.ref l) (.int k u)) Q E s :=
  tail_any (Mine.News.isList N hm).typeIs slot_list_getitem.lookup (wpAny_getItem_list (Mine.News.isList N hm) h0 hfit (by simpa using hx) h) hs
end
noncomputable def okL (cs : Scope) (x : Str) : Bool := cs.kind == .function && cs.names.lookup x == some .local && !(x == ("__debug__" : Str))
theorem okL_is {cs : Scope} {x : Str} (h : okL cs x = true) : cs.kind = .function ∧ cs.names.lookup x = some .local ∧ (x == ("__debug__" : Str)) = false := by
  unfold okL at h
  simp only [Bool.and_eq_true, beq_iff_eq, Bool.not_eq_true'] at h
  exact ⟨h.1.1, h.1.2, h.2⟩
theorem r_var {M : Model} {A : Around} {E : Value → Shared → Prop} {s : Shared} {g : Heap} {L a : Addr} {m : Str → Option Value} {cn : Str} {cs : Scope} {ccd : Value} {cl : List (Str × Addr)} {x : Str} {pos : Pos} {v : Value} {Q : Value → Shared → Prop}
    (F : Fr g L s.heap m) (hv : m x = some v) (hc : okL cs x = true) (h : Q v s) : wpAny M A (eval (.Name x pos) (envX cn cs L a ccd cl)) Q E s :=
  let ⟨a1, a2, a3⟩ := okL_is hc
  wpAny_Name (wpAny_loadName_local a1 a2 F.ns hv h) a3
theorem r_store {M : Model} {A : Around} {E : Value → Shared → Prop} {s : Shared} {g : Heap} {L a : Addr} {m : Str → Option Value} {cn : Str} {cs : Scope} {ccd : Value} {cl : List (Str × Addr)} {x : Str} {v : Value} {news : Led} {Q : Unit → Shared → Prop}
    (F : Fr g L s.heap m) (N : News g L s.heap news) (hc : okL cs x = true)
    (h : ∀ h', Fr g L h' (fun y => if y = x then some v else m y) → News g L h' news → Q () ⟨h', s.gens, s.drawn, s.toks + 1, s.os⟩) : wpAny M A (storeName (envX cn cs L a ccd cl) x v) Q E s :=
  let ⟨a1, a2, _⟩ := okL_is hc
  storeX_L F N h a1 a2
/- Key -/
section
variable {prog : Program} {w : World}
noncomputable abbrev Key := Str × List Int × Int
noncomputable def IsKey (prog : Program) (w : World) (h : Heap) (k : Key) (a : Addr) : Prop :=
  ∃ o t1 t2 t3 b n, h.get? a = some o ∧ o.cls = .type "tuple" ∧ o.data = .seq #[.str k.1 t1, .ref b, .int 0 t2, .int k.2.2 t3] n ∧ IsTupleKey (PySem.intKind prog w) h k.2.1 b
theorem IsKey.typeIs {s : Shared} {k : Key} {a : Addr} (x : IsKey prog w s.heap k a) : s.TypeIs (.ref a) "tuple" := let ⟨o, _, _, _, _, _, ho, hc, _⟩ := x; ⟨o, ho, hc⟩
theorem IsKey.inj {h : Heap} {a : Addr} {x y : Key} (hx : IsKey prog w h x a) (hy : IsKey prog w h y a) : x = y := by
  obtain ⟨o, t1, t2, t3, b, n, ho, _, hd, hi⟩ := hx
  obtain ⟨o', t1', t2', t3', b', n', ho', _, hd', hi'⟩ := hy
  obtain rfl : o = o' := Option.some.inj (ho.symm.trans ho')
  rw [hd] at hd'
  injection hd' with h1 _
  simp only [Array.mk.injEq, List.cons.injEq, Value.str.injEq, Value.ref.injEq, Value.int.injEq, and_true] at h1
  obtain ⟨⟨e1, _⟩, rfl, _, e3, _⟩ := h1
  have e2 := hi.inj hi'
  obtain ⟨x1, x2, x3⟩ := x
  obtain ⟨y1, y2, y3⟩ := y
  simp only at e1 e2 e3
  rw [e1, e2, e3]
theorem IsKey.keeps {h h' : Heap} {k : Key} {a d : Addr} {o : Obj} {es ep} (x : IsKey prog w h k a) (ho : h.get? d = some o) (hd : o.data = .dict es ep) (hs : Heap.SameBut d h h') : IsKey prog w h' k a := by
  obtain ⟨o', t1, t2, t3, b, n, ho', hc, hd', hi⟩ := x
  have hne : a ≠ d := by
    rintro rfl
    obtain rfl : o' = o := Option.some.inj (ho'.symm.trans ho)
    rw [hd] at hd'; exact nomatch hd'
  exact ⟨o', t1, t2, t3, b, n, (hs.2 a hne).trans ho', hc, hd', hi.keeps ho hd hs⟩
noncomputable def keyHashList (prog : Program) (w : World) (k : Key) : List Int :=
  [(PySem.strKind prog w).hash k.1, tupleKeyHash (PySem.intKind prog w) k.2.1, (PySem.intKind prog w).hash 0, (PySem.intKind prog w).hash k.2.2]
noncomputable def keyHash (prog : Program) (w : World) (k : Key) : Int := reduceHash (Builtin.Tuple.tupleHashOf (keyHashList prog w k))
variable {A : Around} {E : Value → Shared → Prop} {s : Shared}
theorem wpAny_pyHash_key {k : Key} {a : Addr} {Q : Int → Shared → Prop} (hu : A.units + 8 < cLine) (hk : IsKey prog w s.heap k a) (h : Q (keyHash prog w k) { s with toks := s.toks + (k.2.1.length + 5) }) :
    wpAny (model prog w) A (pyHash (.ref a)) Q E s := by
  have hT := hk.typeIs
  obtain ⟨o, t1, t2, t3, b, n, ho, _, hd, hi⟩ := hk
  unfold pyHash
  unfold pyHashByItsType
  refine wpAny_bind (wpAny_cRoomFor_or (.inr (by omega)) ?_)
  refine wpAny_bind (wpAny_specialOf hT F.slot_tuple_hash.lookup ?_)
  show wpAny _ _ (if (some (Value.builtin "tuple.__hash__") == some Value.none) = true then _ else _) Q E s
  rw [if_neg (by rw [beq_builtin_none]; exact Bool.false_ne_true)]
  refine wpAny_bind (wpAny_specialOf hT F.slot_tuple_hash.lookup ?_)
  show wpAny _ _ (callSpecialIfBoundUnlessNone? (.ref a) "__hash__" _ >>= _) Q E s
  refine wpAny_bind (wpAny_callSpecialIfBoundUnlessNone?_slot hT F.slot_tuple_hash (wpAny_call_entry F.slot_tuple_hash hT F.entry_tuple_hash ?_ (F.args_tuple_hash_1 _)))
  show wpAny _ _ (Builtin.Tuple.tupleItemsOf (.ref a) >>= _) _ _ s
  refine wpAny_bind (wpAny_tupleItemsOf ho hd ?_)
  refine wpAny_bind ?_
  rw [← Array.forIn_toList]
  simp only [List.forIn_cons, List.forIn_nil]
  refine wpAny_bind (wpAny_bind ((PySem.strKind prog w).pyHash (strKind_is prog w k.1 t1) (wpAny_pure ?_)))
  refine wpAny_bind (wpAny_bind (wpAny_pyHash_tuple (s := { s with toks := s.toks + 1 }) (by show A.units + 1 < cLine; omega) hi (wpAny_pure ?_)))
  refine wpAny_bind (wpAny_bind ((PySem.intKind prog w).pyHash (intKind_is prog w 0 t2) (wpAny_pure ?_)))
  refine wpAny_bind (wpAny_bind ((PySem.intKind prog w).pyHash (intKind_is prog w k.2.2 t3) (wpAny_pure ?_)))
  refine wpAny_pure ?_
  have hl : s.toks + 1 + (k.2.1.length + 1) + 1 + 1 + 1 = s.toks + (k.2.1.length + 5) := by omega
  show wpAny _ _ (retInt (Builtin.Tuple.tupleHashOf (keyHashList prog w k))) _ _ _
  refine wpAny_ret_mkInt ?_
  show wpAny _ _ (if (decide (-(2 : Int) ^ 63 ≤ Builtin.Tuple.tupleHashOf (keyHashList prog w k)) && decide (Builtin.Tuple.tupleHashOf (keyHashList prog w k) < 2 ^ 63)) = true then _ else _) Q E _
  unfold keyHash reduceHash at h
  by_cases hr : (decide (-(2 : Int) ^ 63 ≤ Builtin.Tuple.tupleHashOf (keyHashList prog w k)) && decide (Builtin.Tuple.tupleHashOf (keyHashList prog w k) < 2 ^ 63)) = true
  · rw [if_pos hr]
    rw [if_pos hr] at h
    refine wpAny_pure ?_
    dsimp only
    rw [hl]; exact h
  · rw [if_neg hr]
    rw [if_neg hr] at h
    refine wpAny_bind (wpAny_rule (wpAny_pure ?_))
    dsimp only
    rw [hl]; exact h
theorem key_eq_tree {x y : Key} {a b : Addr} {P : Fin → Shared → Prop} (hu : A.units < cLine) (hx : IsKey prog w s.heap x a) (hy : IsKey prog w s.heap y b) (h : P (.done (.ret (.bool (decide (x = y))))) s) :
    wpAny (model prog w) A (Builtin.«tuple.__eq__» ⟨[.ref a, .ref b], []⟩) P E s := by
  have hTb := hy.typeIs
  obtain ⟨oa, t1, t2, t3, a2, na, hoa, _, hda, hia⟩ := hx
  obtain ⟨ob, u1, u2, u3, b2, nb, hob, _, hdb, hib⟩ := hy
  show wpAny _ _ (isInstance (.ref b) (.type "tuple") >>= _) _ _ s
  refine wpAny_bind (wpAny_isInstance hTb isSubtype_tuple_tuple ?_)
  simp only [Bool.not_true, Bool.false_eq_true, if_false]
  refine wpAny_bind (wpAny_tupleItemsOf hoa hda ?_)
  refine wpAny_bind (wpAny_tupleItemsOf hob hdb ?_)
  refine wpAny_bind ?_
  obtain ⟨x1, x2, x3⟩ := x
  obtain ⟨y1, y2, y3⟩ := y
  dsimp only at hia hib h ⊢
  simp only [List.zip_cons_cons, List.zip_nil_right, List.forIn_cons, List.forIn_nil]
  refine wpAny_bind (wpAny_bind ((PySem.strKind prog w).eqBool (a := x1) (b := y1) (strKind_is prog w x1 t1) (strKind_is prog w y1 u1) ?_))
  by_cases h1 : x1 = y1
  · rw [decide_eq_true h1]
    simp only [Bool.not_true, Bool.false_eq_true, if_false]
    refine wpAny_pure ?_
    refine wpAny_bind (wpAny_bind (wpAny_eqBool_tuple (by omega) hia hib ?_))
    by_cases h2 : x2 = y2
    · rw [decide_eq_true h2]
      simp only [Bool.not_true, Bool.false_eq_true, if_false]
      refine wpAny_pure ?_
      refine wpAny_bind (wpAny_bind ((PySem.intKind prog w).eqBool (a := 0) (b := 0) (intKind_is prog w 0 t2) (intKind_is prog w 0 u2) ?_))
      rw [decide_eq_true rfl]
      simp only [Bool.not_true, Bool.false_eq_true, if_false]
      refine wpAny_pure ?_
      refine wpAny_bind (wpAny_bind ((PySem.intKind prog w).eqBool (a := x3) (b := y3) (intKind_is prog w x3 t3) (intKind_is prog w y3 u3) ?_))
      by_cases h3 : x3 = y3
      · rw [decide_eq_true h3]
        simp only [Bool.not_true, Bool.false_eq_true, if_false]
        refine wpAny_pure ?_
        refine wpAny_pure ?_
        subst h1 h2 h3
        rw [decide_eq_true rfl] at h
        exact wpAny_pure h
      · rw [decide_eq_false h3]
        simp only [Bool.not_false, if_true]
        rw [decide_eq_false (by simp [h3])] at h
        exact wpAny_bind (wpAny_pure (wpAny_pure (wpAny_pure (wpAny_pure h))))
    · rw [decide_eq_false h2]
      simp only [Bool.not_false, if_true]
      rw [decide_eq_false (by simp [h2])] at h
      exact wpAny_bind (wpAny_pure (wpAny_pure (wpAny_pure (wpAny_pure h))))
  · rw [decide_eq_false h1]
    simp only [Bool.not_false, if_true]
    rw [decide_eq_false (by simp [h1])] at h
    exact wpAny_bind (wpAny_pure (wpAny_pure (wpAny_pure (wpAny_pure h))))
theorem wpAny_eqBool_key {x y : Key} {a b : Addr} {Q : Bool → Shared → Prop} (hu : A.units + 8 < cLine) (hx : IsKey prog w s.heap x a) (hy : IsKey prog w s.heap y b) (h : Q (decide (x = y)) s) :
    wpAny (model prog w) A (eqBool (.ref a) (.ref b)) Q E s := by
  unfold eqBool
  try with_reducible refine wpAny_holding ?_
  show wpAny _ _ (if (Value.ref a == Value.ref b) = true then _ else _) Q E s
  by_cases hab : (Value.ref a == Value.ref b) = true
  · rw [if_pos hab]
    have e : a = b := by have := eq_of_beq hab; injection this
    subst e
    obtain rfl := hx.inj hy
    exact wpAny_bind (wpAny_rule (wpAny_pure (by simpa using h)))
  · rw [if_neg hab]
    exact wpAny_bind (wpAny_richCompare_same_room (op := .Eq) hx.typeIs hy.typeIs F.slot_tuple_eq
      (wpAny_call_entry F.slot_tuple_eq hx.typeIs F.entry_tuple_eq (key_eq_tree (by show A.units + 1 < cLine; omega) hx hy ⟨_, rfl, (fun e => nomatch e), wpAny_truthy_bool h⟩) (F.args_tuple_eq_2 _ _)) (by omega))
theorem quiet_ints {n : Nat} {ks : List Int} {a : Addr} {Q : Bool → Shared → Prop} (hk : IsTupleKey (PySem.intKind prog w) s.heap ks a) (h : Q true s) : wpAny (model prog w) A (eqIsQuiet (n + 1) (.ref a)) Q E s := by
  have hT := hk.typeIs
  obtain ⟨o, items, n', ho, _, hd, hi⟩ := hk
  unfold eqIsQuiet
  refine wpAny_bind (wpAny_specialOf hT F.slot_tuple_eq.lookup ?_)
  show wpAny _ _ (isInstance (.ref a) (.type "tuple") >>= _) _ _ s
  refine wpAny_bind (wpAny_isInstance hT isSubtype_tuple_tuple ?_)
  simp only [Bool.not_true, Bool.false_eq_true, if_false]
  refine wpAny_bind (wpAny_seqItems ho hd ?_)
  refine wpAny_bind ?_
  show wpAny _ _ (forIn items _ _) _ _ s
  rw [← Array.forIn_toList]
  refine wpAny_forIn_list _ (fun rest r s' => r.1 = none ∧ s' = s ∧ ∀ v ∈ rest, carriedByValue v = true) _ ?_ ?_ _ _ ⟨rfl, rfl, hi.byValue⟩
  · rintro v rest r s' ⟨hr, rfl, hall⟩
    rw [eqIsQuiet_byValue _ (hall v List.mem_cons_self)]
    refine wpAny_bind (wpAny_pure ?_)
    simp only [Bool.not_true, Bool.false_eq_true, if_false]
    exact wpAny_pure ⟨rfl, rfl, fun u hu' => hall u (List.mem_cons_of_mem _ hu')⟩
  · rintro ⟨r1, r2⟩ s' ⟨hr, rfl, _⟩
    simp only at hr
    subst hr
    exact wpAny_pure h
theorem wpAny_quiet_key {k : Key} {a : Addr} {Q : Bool → Shared → Prop} (hk : IsKey prog w s.heap k a) (h : Q true s) : wpAny (model prog w) A (eqIsQuiet 8 (.ref a)) Q E s := by
  have hT := hk.typeIs
  obtain ⟨o, t1, t2, t3, b, n, ho, _, hd, hi⟩ := hk
  unfold eqIsQuiet
  refine wpAny_bind (wpAny_specialOf hT F.slot_tuple_eq.lookup ?_)
  show wpAny _ _ (isInstance (.ref a) (.type "tuple") >>= _) _ _ s
  refine wpAny_bind (wpAny_isInstance hT isSubtype_tuple_tuple ?_)
  simp only [Bool.not_true, Bool.false_eq_true, if_false]
  refine wpAny_bind (wpAny_seqItems ho hd ?_)
  refine wpAny_bind ?_
  show wpAny _ _ (forIn (#[Value.str k.1 t1, .ref b, .int 0 t2, .int k.2.2 t3] : Array Value) _ _) _ _ s
  rw [← Array.forIn_toList]
  simp only [List.forIn_cons, List.forIn_nil]
  rw [eqIsQuiet_byValue _ (rfl : carriedByValue (Value.str k.1 t1) = true), eqIsQuiet_byValue _ (rfl : carriedByValue (Value.int 0 t2) = true), eqIsQuiet_byValue _ (rfl : carriedByValue (Value.int k.2.2 t3) = true)]
  refine wpAny_bind (wpAny_bind (wpAny_pure ?_))
  simp only [Bool.not_true, Bool.false_eq_true, if_false]
  refine wpAny_pure ?_
  refine wpAny_bind (wpAny_bind (quiet_ints hi ?_))
  simp only [Bool.not_true, Bool.false_eq_true, if_false]
  refine wpAny_pure ?_
  refine wpAny_bind (wpAny_bind (wpAny_pure ?_))
  simp only [Bool.not_true, Bool.false_eq_true, if_false]
  refine wpAny_pure ?_
  refine wpAny_bind (wpAny_bind (wpAny_pure ?_))
  simp only [Bool.not_true, Bool.false_eq_true, if_false]
  refine wpAny_pure ?_
  refine wpAny_pure ?_
  exact wpAny_pure h
end
noncomputable def keyKind (prog : Program) (w : World) : HeapKind prog w Key where
  is := IsKey prog w
  hash := keyHash prog w
  draws := fun k => k.2.1.length + 5
  room := fun A => A.units + 8 < cLine
  inj := fun hx hy => hx.inj hy
  keeps := fun x ho hd hs => x.keeps ho hd hs
  pyHash := fun hu hk h => wpAny_pyHash_key hu hk h
  eqBool := fun hu hx hy h => wpAny_eqBool_key hu hx hy h
  quiet := fun hk h => wpAny_quiet_key hk h
/- Wf0 -/
/-- an argument of node i -/
noncomputable abbrev ArgOk (i : Nat) (x : Int) : Prop := 1 ≤ x ∧ x < i
inductive NodeOk (i : Nat) : Key → Prop
  | tru : i = 1 → NodeOk i (Str.ofString "true", [], 0)
  | fls : i = 2 → NodeOk i (Str.ofString "false", [], 0)
  | app (d : Nat) : i = d + 3 → d < 3 → NodeOk i (Str.ofString "app", [], d)
  | not (a : Int) : ArgOk i a → NodeOk i (Str.ofString "not", [a], 0)
  | xor (a b : Int) : ArgOk i a → ArgOk i b → NodeOk i (Str.ofString "xor", [a, b], 0)
  | imp (a b : Int) : ArgOk i a → ArgOk i b → NodeOk i (Str.ofString "=>", [a, b], 0)
  | eqq (a b : Int) : ArgOk i a → ArgOk i b → NodeOk i (Str.ofString "=", [a, b], 0)
  | dis2 (a b : Int) : ArgOk i a → ArgOk i b → NodeOk i (Str.ofString "distinct", [a, b], 0)
  | dis3 (a b c : Int) : ArgOk i a → ArgOk i b → ArgOk i c → NodeOk i (Str.ofString "distinct", [a, b, c], 0)
  | ite (a b c : Int) : ArgOk i a → ArgOk i b → ArgOk i c → NodeOk i (Str.ofString "ite", [a, b, c], 0)
  | and (a b c : Int) : ArgOk i a → ArgOk i b → ArgOk i c → NodeOk i (Str.ofString "and", [a, b, c], 0)
  | or (a b c : Int) : ArgOk i a → ArgOk i b → ArgOk i c → NodeOk i (Str.ofString "or", [a, b, c], 0)
structure Wf (T : List Key) : Prop where
  n1 : T[1]? = some (Str.ofString "true", [], 0)
  n2 : T[2]? = some (Str.ofString "false", [], 0)
  n3 : T[3]? = some (Str.ofString "app", [], 0)
  n4 : T[4]? = some (Str.ofString "app", [], 1)
  n5 : T[5]? = some (Str.ofString "app", [], 2)
  ok : ∀ i k, T[i]? = some k → 1 ≤ i → NodeOk i k
theorem Wf.len {T : List Key} (h : Wf T) : 6 ≤ T.length := (List.getElem?_eq_some_iff.mp h.n5).1
theorem Wf.push {T : List Key} (h : Wf T) {k : Key} (hk : NodeOk T.length k) : Wf (T ++ [k]) := by
  have hl := h.len
  refine ⟨?_, ?_, ?_, ?_, ?_, ?_⟩
  · rw [List.getElem?_append_left (by omega)]; exact h.n1
  · rw [List.getElem?_append_left (by omega)]; exact h.n2
  · rw [List.getElem?_append_left (by omega)]; exact h.n3
  · rw [List.getElem?_append_left (by omega)]; exact h.n4
  · rw [List.getElem?_append_left (by omega)]; exact h.n5
  · intro i k' hi h1
    by_cases hlt : i < T.length
    · rw [List.getElem?_append_left hlt] at hi; exact h.ok i k' hi h1
    · have e : i = T.length := by have := (List.getElem?_eq_some_iff.mp hi).1; simp at this; omega
      subst e
      rw [List.getElem?_concat_length] at hi
      rw [← Option.some.inj hi]; exact hk
/-- a term's number -/
noncomputable abbrev Tn (T : List Key) (n : Nat) : Prop := 1 ≤ n ∧ n < T.length
theorem Tn.key {T : List Key} {n : Nat} (h : Tn T n) : ∃ k, T[n]? = some k := ⟨_, List.getElem?_eq_getElem h.2⟩
theorem NodeOk.args {i : Nat} {k : Key} (h : NodeOk i k) : ∀ x ∈ k.2.1, ArgOk i x := by
  intro x hx
  cases h <;> simp only [List.mem_cons, List.not_mem_nil, or_false] at hx
  all_goals (first
    | (subst hx; assumption)
    | (rcases hx with hx | hx <;> (subst hx; assumption))
    | (rcases hx with hx | hx | hx <;> (subst hx; assumption)))
/- Pure -/
/-- a fold over the table, left to right -/
noncomputable def tabl {β : Type} (d : β) (st : (Nat → β) → Key → β) (T : List Key) : List β := T.foldl (fun acc k => acc ++ [st (fun i => acc.getD i d) k]) []
theorem tabl_snoc {β : Type} (d : β) (st : (Nat → β) → Key → β) (T : List Key) (k : Key) : tabl d st (T ++ [k]) = tabl d st T ++ [st (fun i => (tabl d st T).getD i d) k] := by
  unfold tabl; rw [List.foldl_append]; rfl
theorem tabl_len {β : Type} (d : β) (st : (Nat → β) → Key → β) (T : List Key) : (tabl d st T).length = T.length := by
  have : ∀ n, ∀ T : List Key, T.length = n → (tabl d st T).length = T.length := by
    intro n
    induction n with
    | zero => intro T h; rw [List.length_eq_zero_iff.mp h]; rfl
    | succ n ih =>
      intro T h
      have hne : T ≠ [] := by rintro rfl; simp at h
      rw [← List.dropLast_concat_getLast hne, tabl_snoc, List.length_append, List.length_append, List.length_singleton, List.length_singleton, ih _ (by rw [List.length_dropLast]; omega)]
  exact this _ T rfl
theorem tabl_pre {β : Type} (d : β) (st : (Nat → β) → Key → β) (T U : List Key) : ∃ r, tabl d st (T ++ U) = tabl d st T ++ r := by
  have : ∀ n, ∀ U : List Key, U.length = n → ∃ r, tabl d st (T ++ U) = tabl d st T ++ r := by
    intro n
    induction n with
    | zero => intro U h; rw [List.length_eq_zero_iff.mp h]; exact ⟨[], by simp⟩
    | succ n ih =>
      intro U h
      have hne : U ≠ [] := by rintro rfl; simp at h
      obtain ⟨r, hr⟩ := ih U.dropLast (by rw [List.length_dropLast]; omega)
      rw [← List.dropLast_concat_getLast hne, ← List.append_assoc, tabl_snoc, hr]
      exact ⟨_, List.append_assoc ..⟩
  exact this _ U rfl
/-- the value of node n -/
noncomputable def tabAt {β : Type} (d : β) (st : (Nat → β) → Key → β) (T : List Key) (n : Nat) : β := (tabl d st T).getD n d
theorem tabAt_eq {β : Type} {d : β} {st : (Nat → β) → Key → β} {T : List Key} {n : Nat} {k : Key} (hk : T[n]? = some k)
    (cg : ∀ f g : Nat → β, (∀ i, i < n → f i = g i) → st f k = st g k) : tabAt d st T n = st (tabAt d st T) k := by
  obtain ⟨hn, e⟩ := List.getElem?_eq_some_iff.mp hk
  have e1 : T = (T.take n ++ [k]) ++ T.drop (n + 1) := by
    rw [← e, List.append_assoc]
    simp
  have key : ∀ i, i < n → tabAt d st T i = (tabl d st (T.take n)).getD i d := by
    intro i hi
    unfold tabAt
    have e2 : T = T.take n ++ T.drop n := (List.take_append_drop n T).symm
    obtain ⟨r, hr⟩ := tabl_pre d st (T.take n) (T.drop n)
    rw [← e2] at hr
    have hl : (tabl d st (T.take n)).length = n := by rw [tabl_len, List.length_take]; omega
    rw [hr, List.getD_eq_getElem?_getD, List.getD_eq_getElem?_getD, List.getElem?_append_left (by omega)]
  have h1 : tabAt d st T n = st (fun i => (tabl d st (T.take n)).getD i d) k := by
    unfold tabAt
    obtain ⟨r, hr⟩ := tabl_pre d st (T.take n ++ [k]) (T.drop (n + 1))
    rw [← e1] at hr
    have hl : (tabl d st (T.take n)).length = n := by rw [tabl_len, List.length_take]; omega
    rw [hr, tabl_snoc, List.getD_eq_getElem?_getD, List.getElem?_append_left (by rw [List.length_append, List.length_singleton]; omega)]
    have := List.getElem?_concat_length (l := tabl d st (T.take n)) (a := st (fun i => (tabl d st (T.take n)).getD i d) k)
    rw [hl] at this
    rw [this]; rfl
  rw [h1]
  exact cg _ _ fun i hi => (key i hi).symm
/-- what a node tells of its parts' truths -/
noncomputable def nv (ρ : Nat → Bool) (f : Nat → Bool) (k : Key) : Bool :=
  let a := fun i => f (k.2.1.getD i 0).toNat
  if k.1 = Str.ofString "true" then true
  else if k.1 = Str.ofString "false" then false
  else if k.1 = Str.ofString "app" then ρ k.2.2.toNat
  else if k.1 = Str.ofString "not" then !(a 0)
  else if k.1 = Str.ofString "xor" then a 0 != a 1
  else if k.1 = Str.ofString "=>" then !(a 0) || a 1
  else if k.1 = Str.ofString "=" then a 0 == a 1
  else if k.1 = Str.ofString "distinct" then (if k.2.1.length = 2 then a 0 != a 1 else false)
  else if k.1 = Str.ofString "ite" then (if a 0 then a 1 else a 2)
  else if k.1 = Str.ofString "and" then a 0 && (a 1 && a 2)
  else a 0 || (a 1 || a 2)
section
variable {ρ f : Nat → Bool} {a b c : Int}
theorem nv_tru : nv ρ f (Str.ofString "true", [], 0) = true := rfl
theorem nv_fls : nv ρ f (Str.ofString "false", [], 0) = false := rfl
theorem nv_app {d : Nat} : nv ρ f (Str.ofString "app", [], (d : Int)) = ρ d := rfl
theorem nv_not : nv ρ f (Str.ofString "not", [a], 0) = !(f a.toNat) := rfl
theorem nv_xor : nv ρ f (Str.ofString "xor", [a, b], 0) = (f a.toNat != f b.toNat) := rfl
theorem nv_imp : nv ρ f (Str.ofString "=>", [a, b], 0) = (!(f a.toNat) || f b.toNat) := rfl
theorem nv_eqq : nv ρ f (Str.ofString "=", [a, b], 0) = (f a.toNat == f b.toNat) := rfl
theorem nv_dis2 : nv ρ f (Str.ofString "distinct", [a, b], 0) = (f a.toNat != f b.toNat) := rfl
theorem nv_dis3 : nv ρ f (Str.ofString "distinct", [a, b, c], 0) = false := rfl
theorem nv_ite : nv ρ f (Str.ofString "ite", [a, b, c], 0) = (if f a.toNat then f b.toNat else f c.toNat) := rfl
theorem nv_and : nv ρ f (Str.ofString "and", [a, b, c], 0) = (f a.toNat && (f b.toNat && f c.toNat)) := rfl
theorem nv_or : nv ρ f (Str.ofString "or", [a, b, c], 0) = (f a.toNat || (f b.toNat || f c.toNat)) := rfl
end
theorem nv_congr {ρ f g : Nat → Bool} {n : Nat} {k : Key} (hk : NodeOk n k) (h : ∀ i, i < n → f i = g i) : nv ρ f k = nv ρ g k := by
  have hx : ∀ x : Int, ArgOk n x → f x.toNat = g x.toNat := fun x hx => h _ (by have := hx.1; have := hx.2; omega)
  cases hk with
  | tru => rfl
  | fls => rfl
  | app => rfl
  | not a ha => rw [nv_not, nv_not, hx a ha]
  | xor a b ha hb => rw [nv_xor, nv_xor, hx a ha, hx b hb]
  | imp a b ha hb => rw [nv_imp, nv_imp, hx a ha, hx b hb]
  | eqq a b ha hb => rw [nv_eqq, nv_eqq, hx a ha, hx b hb]
  | dis2 a b ha hb => rw [nv_dis2, nv_dis2, hx a ha, hx b hb]
  | dis3 a b c ha hb hc => rfl
  | ite a b c ha hb hc => rw [nv_ite, nv_ite, hx a ha, hx b hb, hx c hc]
  | and a b c ha hb hc => rw [nv_and, nv_and, hx a ha, hx b hb, hx c hc]
  | or a b c ha hb hc => rw [nv_or, nv_or, hx a ha, hx b hb, hx c hc]
/-- a term's truth -/
noncomputable def ev (ρ : Nat → Bool) (T : List Key) (n : Nat) : Bool := tabAt false (nv ρ) T n
theorem ev_eq {ρ : Nat → Bool} {T : List Key} {n : Nat} {k : Key} (wf : Wf T) (hk : T[n]? = some k) (h1 : 1 ≤ n) : ev ρ T n = nv ρ (ev ρ T) k :=
  tabAt_eq hk fun _ _ h => nv_congr (wf.ok n k hk h1) h
/-- a term's weight -/
noncomputable def wst (f : Nat → Nat) (k : Key) : Nat := 2 + (k.2.1.map fun x => f x.toNat).sum
noncomputable def wt (T : List Key) (n : Nat) : Nat := tabAt 0 wst T n
theorem wt_eq {T : List Key} {n : Nat} {k : Key} (wf : Wf T) (hk : T[n]? = some k) (h1 : 1 ≤ n) : wt T n = 2 + (k.2.1.map fun x => wt T x.toNat).sum :=
  tabAt_eq hk fun f g h => by
    unfold wst
    congr 2
    refine List.map_congr_left fun x hx => h _ ?_
    have hh := (wf.ok n k hk h1).args x hx
    have h2 := hh.1; have h3 := hh.2; omega
theorem wt_le {T : List Key} (wf : Wf T) : ∀ n, Tn T n → wt T n + 1 ≤ 3 * 3 ^ (n - 5) := by
  intro n
  induction n using Nat.strongRecOn with
  | _ n ih =>
    intro hn
    by_cases h5 : n ≤ 5
    · have h1 := hn.1
      have : ∃ k : Key, T[n]? = some k ∧ k.2.1 = [] := by
        obtain rfl | rfl | rfl | rfl | rfl : n = 1 ∨ n = 2 ∨ n = 3 ∨ n = 4 ∨ n = 5 := by omega
        · exact ⟨_, wf.n1, rfl⟩
        · exact ⟨_, wf.n2, rfl⟩
        · exact ⟨_, wf.n3, rfl⟩
        · exact ⟨_, wf.n4, rfl⟩
        · exact ⟨_, wf.n5, rfl⟩
      obtain ⟨k, hk, he⟩ := this
      rw [wt_eq wf hk h1, he]
      have : 1 ≤ 3 ^ (n - 5) := Nat.pos_of_ne_zero (by simp)
      simp only [List.map_nil, List.sum_nil]; omega
    obtain ⟨k, hk⟩ := hn.key
    have hok := wf.ok n k hk hn.1
    rw [wt_eq wf hk hn.1]
    have e : 3 ^ (n - 5) = 3 * 3 ^ (n - 6) := by
      have : n - 5 = (n - 6) + 1 := by omega
      rw [this, Nat.pow_succ]; omega
    have p : 1 ≤ 3 ^ (n - 6) := Nat.pos_of_ne_zero (by simp)
    have hx : ∀ x : Int, ArgOk n x → wt T x.toNat + 1 ≤ 3 * 3 ^ (n - 6) := by
      intro x hx
      have h1 := hx.1; have h2 := hx.2
      refine Nat.le_trans (ih x.toNat (by omega) ⟨by omega, by have := hn.2; omega⟩) (Nat.mul_le_mul_left _ (Nat.pow_le_pow_right (by decide) (by omega)))
    rw [e]
    cases hok with
    | tru => simp only [List.map_nil, List.sum_nil]; omega
    | fls => simp only [List.map_nil, List.sum_nil]; omega
    | app => simp only [List.map_nil, List.sum_nil]; omega
    | not a ha => have := hx a ha; simp only [List.map_cons, List.map_nil, List.sum_cons, List.sum_nil]; omega
    | xor a b ha hb => have := hx a ha; have := hx b hb; simp only [List.map_cons, List.map_nil, List.sum_cons, List.sum_nil]; omega
    | imp a b ha hb => have := hx a ha; have := hx b hb; simp only [List.map_cons, List.map_nil, List.sum_cons, List.sum_nil]; omega
    | eqq a b ha hb => have := hx a ha; have := hx b hb; simp only [List.map_cons, List.map_nil, List.sum_cons, List.sum_nil]; omega
    | dis2 a b ha hb => have := hx a ha; have := hx b hb; simp only [List.map_cons, List.map_nil, List.sum_cons, List.sum_nil]; omega
    | dis3 a b c ha hb hc => have := hx a ha; have := hx b hb; have := hx c hc; simp only [List.map_cons, List.map_nil, List.sum_cons, List.sum_nil]; omega
    | ite a b c ha hb hc => have := hx a ha; have := hx b hb; have := hx c hc; simp only [List.map_cons, List.map_nil, List.sum_cons, List.sum_nil]; omega
    | and a b c ha hb hc => have := hx a ha; have := hx b hb; have := hx c hc; simp only [List.map_cons, List.map_nil, List.sum_cons, List.sum_nil]; omega
    | or a b c ha hb hc => have := hx a ha; have := hx b hb; have := hx c hc; simp only [List.map_cons, List.map_nil, List.sum_cons, List.sum_nil]; omega
theorem wt_small {T : List Key} (wf : Wf T) {n : Nat} (hn : Tn T n) (hl : T.length ≤ 13) : wt T n ≤ 6560 := by
  have h := wt_le wf n hn
  have : 3 ^ (n - 5) ≤ 3 ^ 7 := Nat.pow_le_pow_right (by decide) (by have := hn.2; omega)
  have e : 3 ^ 7 = 2187 := by decide
  omega
/-- a term under the roots -/
inductive Reach (T : List Key) (roots : List Nat) : Nat → Prop
  | root {r : Nat} : r ∈ roots → Reach T roots r
  | kid {t c : Nat} {k : Key} : Reach T roots t → T[t]? = some k → (c : Int) ∈ k.2.1 → Reach T roots c
/-- the parts of the roots, each behind its own parts -/
structure Topo (T : List Key) (roots L : List Nat) : Prop where
  tn : ∀ x ∈ L, Tn T x
  cl : ∀ i x k, L[i]? = some x → T[x]? = some k → ∀ c : Nat, (c : Int) ∈ k.2.1 → c ∈ L.take i
  rt : ∀ r ∈ roots, r ∈ L
  rc : ∀ x ∈ L, Reach T roots x
  nd : L.Nodup
theorem Topo.all {T : List Key} {roots L : List Nat} (h : Topo T roots L) {x : Nat} (r : Reach T roots x) : x ∈ L := by
  induction r with
  | root hr => exact h.rt _ hr
  | kid _ hk hc ih =>
    obtain ⟨i, hi⟩ := List.getElem?_of_mem ih
    exact List.mem_of_mem_take (h.cl i _ _ hi hk _ hc)
theorem nodup_len {n : Nat} : ∀ {L : List Nat}, L.Nodup → (∀ x ∈ L, x < n) → L.length ≤ n := by
  induction n with
  | zero => intro L _ h; cases L with | nil => simp | cons a r => exact absurd (h a (.head _)) (by omega)
  | succ n ih =>
    intro L hd h
    have h1 := ih (L := L.erase n) (hd.erase n) (fun x hx => by
      have h2 := h x (List.mem_of_mem_erase hx)
      have h3 : x ≠ n := by rintro rfl; exact (List.Nodup.not_mem_erase hd) hx
      omega)
    have h2 := List.length_erase (a := n) (l := L)
    split at h2 <;> omega
/-- the walk's state: what is found, the stack (its top at the end) -/
structure Dfs (T : List Key) (roots : List Nat) (fs : List Nat) (S : List (Nat × Bool)) : Prop where
  tn : ∀ x ∈ fs, Tn T x
  cl : ∀ i x k, fs[i]? = some x → T[x]? = some k → ∀ c : Nat, (c : Int) ∈ k.2.1 → c ∈ fs.take i
  rc : ∀ x ∈ fs, Reach T roots x
  nd : fs.Nodup
  st : ∀ p ∈ S, Tn T p.1 ∧ Reach T roots p.1
  op : ∀ (j t : Nat) (k : Key), S[j]? = some (t, true) → T[t]? = some k → ∀ c : Nat, (c : Int) ∈ k.2.1 → c ∈ fs ∨ ∃ j' b, j < j' ∧ S[j']? = some (c, b)
noncomputable def mu (T : List Key) (S : List (Nat × Bool)) : Nat := (S.map fun p => if p.2 then 1 else wt T p.1).sum
theorem mu_snoc {T : List Key} {S : List (Nat × Bool)} {p : Nat × Bool} : mu T (S ++ [p]) = mu T S + (if p.2 then 1 else wt T p.1) := by
  unfold mu; rw [List.map_append, List.sum_append]; simp
theorem mu_app {T : List Key} {S S' : List (Nat × Bool)} : mu T (S ++ S') = mu T S + mu T S' := by
  unfold mu; rw [List.map_append, List.sum_append]
theorem wt_pos {T : List Key} {n : Nat} (wf : Wf T) (hn : Tn T n) : 2 ≤ wt T n := by
  obtain ⟨k, hk⟩ := hn.key
  rw [wt_eq wf hk hn.1]; omega
theorem mu_len {T : List Key} (wf : Wf T) : ∀ {S : List (Nat × Bool)}, (∀ p ∈ S, Tn T p.1) → S.length ≤ mu T S := by
  intro S
  induction S with
  | nil => intro _; simp
  | cons p r ih =>
    intro h
    have h1 := ih fun q hq => h q (.tail _ hq)
    have h2 := wt_pos wf (h p (.head _))
    have : mu T (p :: r) = (if p.2 then 1 else wt T p.1) + mu T r := rfl
    rw [this, List.length_cons]
    split <;> omega
section
variable {T : List Key} {roots fs : List Nat} {S : List (Nat × Bool)} {t : Nat} {b : Bool} {k : Key}
theorem snoc_get {α : Type} {l : List α} {x y : α} {j : Nat} (h : (l ++ [x])[j]? = some y) : l[j]? = some y ∨ (j = l.length ∧ y = x) := by
  by_cases hj : j < l.length
  · rw [List.getElem?_append_left hj] at h; exact .inl h
  · have e : j = l.length := by have := (List.getElem?_eq_some_iff.mp h).1; simp at this; omega
    subst e
    rw [List.getElem?_concat_length] at h
    exact .inr ⟨rfl, (Option.some.inj h).symm⟩
theorem get_lt {α : Type} {l : List α} {y : α} {j : Nat} (h : l[j]? = some y) : j < l.length := (List.getElem?_eq_some_iff.mp h).1
theorem get_left {α : Type} {l l' : List α} {y : α} {j : Nat} (h : l[j]? = some y) : (l ++ l')[j]? = some y := by
  rw [List.getElem?_append_left (get_lt h)]; exact h
/-- the top is found already -/
theorem Dfs.skip (h : Dfs T roots fs (S ++ [(t, b)])) (ht : t ∈ fs) : Dfs T roots fs S := by
  refine { h with st := fun p hp => h.st p (List.mem_append_left _ hp), op := fun j u k hj hk c hc => ?_ }
  rcases h.op j u k (get_left hj) hk c hc with hf | ⟨j', b', hlt, hj'⟩
  · exact .inl hf
  · rcases snoc_get hj' with hj' | ⟨_, e⟩
    · exact .inr ⟨j', b', hlt, hj'⟩
    · injection e with e1 e2
      exact .inl (e1 ▸ ht)
/-- an open top: its parts are found -/
theorem Dfs.take (wf : Wf T) (h : Dfs T roots fs (S ++ [(t, true)])) (ht : t ∉ fs) : Dfs T roots (fs ++ [t]) S := by
  obtain ⟨htn, htr⟩ := h.st (t, true) (by simp)
  refine ⟨?_, ?_, ?_, ?_, fun p hp => h.st p (List.mem_append_left _ hp), ?_⟩
  · intro x hx
    rcases List.mem_append.mp hx with hx | hx
    · exact h.tn x hx
    · rw [List.mem_singleton.mp hx]; exact htn
  · intro i x k hi hk c hc
    rcases snoc_get hi with hi' | ⟨e1, e2⟩
    · rw [List.take_append_of_le_length (Nat.le_of_lt (get_lt hi'))]
      exact h.cl i x k hi' hk c hc
    · subst e1 e2
      rw [List.take_left]
      rcases h.op S.length x k (by rw [List.getElem?_concat_length]) hk c hc with hf | ⟨j', b', hlt, hj'⟩
      · exact hf
      · have := get_lt hj'
        rw [List.length_append, List.length_singleton] at this
        omega
  · intro x hx
    rcases List.mem_append.mp hx with hx | hx
    · exact h.rc x hx
    · rw [List.mem_singleton.mp hx]; exact htr
  · rw [List.nodup_append]
    refine ⟨h.nd, by simp, ?_⟩
    intro a ha b hb e
    rw [List.mem_singleton.mp hb] at e
    exact ht (e ▸ ha)
  · intro j u k hj hk c hc
    rcases h.op j u k (get_left hj) hk c hc with hf | ⟨j', b', hlt, hj'⟩
    · exact .inl (List.mem_append_left _ hf)
    · rcases snoc_get hj' with hj' | ⟨_, e⟩
      · exact .inr ⟨j', b', hlt, hj'⟩
      · injection e with e1 e2
        exact .inl (List.mem_append_right _ (by rw [e1]; simp))
/-- the parts to come -/
noncomputable def todo (fs : List Nat) (as : List Int) : List (Nat × Bool) := ((as.map Int.toNat).filter fun c => !(fs.contains c)).map fun c => (c, false)
theorem Dfs.open (wf : Wf T) (h : Dfs T roots fs (S ++ [(t, false)])) (hk : T[t]? = some k) : Dfs T roots fs (S ++ [(t, true)] ++ todo fs k.2.1.reverse) := by
  obtain ⟨htn, htr⟩ := h.st (t, false) (by simp)
  have hargs := (wf.ok t k hk htn.1).args
  have hmem : ∀ c : Nat, (c : Int) ∈ k.2.1 → c ∉ fs → (c, false) ∈ todo fs k.2.1.reverse := by
    intro c hc hn
    refine List.mem_map.mpr ⟨c, List.mem_filter.mpr ⟨List.mem_map.mpr ⟨(c : Int), List.mem_reverse.mpr hc, by simp⟩, ?_⟩, rfl⟩
    simpa using hn
  refine { h with st := fun p hp => ?_, op := fun j u k' hj hk' c hc => ?_ }
  · rcases List.mem_append.mp hp with hp | hp
    · rcases List.mem_append.mp hp with hp | hp
      · exact h.st p (List.mem_append_left _ hp)
      · rw [List.mem_singleton.mp hp]; exact ⟨htn, htr⟩
    · obtain ⟨c, hc, rfl⟩ := List.mem_map.mp hp
      obtain ⟨x, hx, rfl⟩ := List.mem_map.mp (List.mem_filter.mp hc).1
      have hx' := List.mem_reverse.mp hx
      have ha := hargs x hx'
      have h1 := ha.1; have h2 := ha.2; have h3 := htn.2
      exact ⟨⟨by show 1 ≤ x.toNat; omega, by show x.toNat < _; omega⟩, htr.kid hk (by rw [show ((x.toNat : Nat) : Int) = x by omega]; exact hx')⟩
  · rw [List.append_assoc] at hj ⊢
    by_cases hjl : j < S.length
    · rw [List.getElem?_append_left hjl] at hj
      rcases h.op j u k' (get_left hj) hk' c hc with hf | ⟨j', b', hlt, hj'⟩
      · exact .inl hf
      · rcases snoc_get hj' with hj' | ⟨e1, e⟩
        · exact .inr ⟨j', b', hlt, get_left hj'⟩
        · injection e with e2 e3
          refine .inr ⟨S.length, true, hjl, ?_⟩
          rw [List.getElem?_append_right (Nat.le_refl _), Nat.sub_self, e2]; rfl
    · rw [List.getElem?_append_right (by omega)] at hj
      cases hd : j - S.length with
      | zero =>
        rw [hd] at hj
        simp only [List.cons_append, List.nil_append, List.getElem?_cons_zero, Option.some.injEq, Prod.mk.injEq, and_true] at hj
        subst hj
        rw [hk] at hk'
        obtain rfl := Option.some.inj hk'
        by_cases hf : c ∈ fs
        · exact .inl hf
        · obtain ⟨i, hi⟩ := List.getElem?_of_mem (hmem c hc hf)
          refine .inr ⟨S.length + (i + 1), false, by omega, ?_⟩
          rw [List.getElem?_append_right (by omega), Nat.add_sub_cancel_left]
          exact hi
      | succ i =>
        rw [hd] at hj
        simp only [List.cons_append, List.nil_append, List.getElem?_cons_succ] at hj
        obtain ⟨c', _, e⟩ := List.mem_map.mp (List.mem_of_getElem? hj)
        injection e with _ e; exact nomatch e
theorem todo_mu (fs : List Nat) (as : List Int) : mu T (todo fs as) ≤ (as.map fun x => wt T x.toNat).sum := by
  induction as with
  | nil => exact Nat.le_refl _
  | cons a r ih =>
    unfold todo at ih ⊢
    rw [List.map_cons, List.map_cons, List.sum_cons]
    by_cases h : (!(fs.contains a.toNat)) = true
    · rw [List.filter_cons_of_pos (p := fun c => !(fs.contains c)) h, List.map_cons]
      have : ∀ (p : Nat × Bool) r, mu T (p :: r) = (if p.2 then 1 else wt T p.1) + mu T r := fun _ _ => rfl
      rw [this]
      simp only [Bool.false_eq_true, if_false]
      omega
    · rw [List.filter_cons_of_neg (p := fun c => !(fs.contains c)) h]; omega
theorem sum_rev : ∀ (l : List Nat), l.reverse.sum = l.sum := by
  intro l
  induction l with
  | nil => rfl
  | cons a r ih => rw [List.reverse_cons, List.sum_append, List.sum_cons, ih]; simp; omega
theorem open_mu (wf : Wf T) (hk : T[t]? = some k) (h1 : 1 ≤ t) : mu T (S ++ [(t, true)] ++ todo fs k.2.1.reverse) < mu T (S ++ [(t, false)]) := by
  rw [mu_app, mu_snoc, mu_snoc]
  have h2 := todo_mu (T := T) fs k.2.1.reverse
  rw [List.map_reverse, sum_rev] at h2
  have h3 := wt_eq wf hk h1
  simp only [if_true, Bool.false_eq_true, if_false]
  omega
theorem todo_snoc (fs : List Nat) (as : List Int) (x : Int) : todo fs (as ++ [x]) = todo fs as ++ (if fs.contains x.toNat then [] else [(x.toNat, false)]) := by
  unfold todo
  rw [List.map_append, List.filter_append, List.map_append]
  congr 1
  simp only [List.map_cons, List.map_nil]
  by_cases h : fs.contains x.toNat = true
  · rw [if_pos h, List.filter_cons_of_neg (p := fun c => !(fs.contains c)) (by rw [h]; decide)]; rfl
  · rw [if_neg h, List.filter_cons_of_pos (p := fun c => !(fs.contains c)) (by simpa using h)]; rfl
theorem Dfs.start {r : Nat} (h : Dfs T roots fs []) (hr : r ∈ roots) (hn : Tn T r) : Dfs T roots fs [(r, false)] := by
  refine { h with st := fun p hp => ?_, op := fun j u k hj _ _ _ => ?_ }
  · rw [List.mem_singleton.mp hp]; exact ⟨hn, .root hr⟩
  · cases j with
    | zero => simp at hj
    | succ j => simp at hj
theorem Dfs.nil : Dfs T roots [] [] := ⟨by simp, fun i x k h => by simp at h, by simp, List.nodup_nil, by simp, fun j t k h => by simp at h⟩
theorem Dfs.topo (h : Dfs T roots fs []) (hr : ∀ r ∈ roots, r ∈ fs) : Topo T roots fs := ⟨h.tn, h.cl, hr, h.rc, h.nd⟩
end
/- Bank -/
noncomputable abbrev PRG : Program := PySem.Challenge.rw_qz0034_01.row.prog
noncomputable def Rel2 {β : Type} (R : Value → β → Prop) (vs : List Value) (xs : List β) : Prop :=
  vs.length = xs.length ∧ ∀ (i : Nat) (x : β), xs[i]? = some x → ∃ v, vs[i]? = some v ∧ R v x
theorem Rel2.get {β : Type} {R : Value → β → Prop} {vs : List Value} {xs : List β} (h : Rel2 R vs xs) {i : Nat} {x : β} (hx : xs[i]? = some x) : ∃ v, vs[i]? = some v ∧ R v x := h.2 i x hx
theorem Rel2.mono {β : Type} {R R' : Value → β → Prop} {vs : List Value} {xs : List β} (h : Rel2 R vs xs) (k : ∀ v x, R v x → R' v x) : Rel2 R' vs xs :=
  ⟨h.1, fun i x hx => let ⟨v, hv, r⟩ := h.2 i x hx; ⟨v, hv, k v x r⟩⟩
theorem Rel2.push {β : Type} {R : Value → β → Prop} {vs : List Value} {xs : List β} (h : Rel2 R vs xs) {v : Value} {x : β} (r : R v x) : Rel2 R (vs ++ [v]) (xs ++ [x]) := by
  refine ⟨by simp [h.1], fun i y hy => ?_⟩
  by_cases hi : i < xs.length
  · rw [List.getElem?_append_left hi] at hy
    obtain ⟨u, hu, ru⟩ := h.2 i y hy
    exact ⟨u, by rw [List.getElem?_append_left (by rw [h.1]; exact hi)]; exact hu, ru⟩
  · have e : i = xs.length := by
      have hlt : i < (xs ++ [x]).length := (List.getElem?_eq_some_iff.mp hy).1
      simp at hlt; omega
    subst e
    simp only [List.getElem?_concat_length, Option.some.injEq] at hy
    subst hy
    exact ⟨v, by rw [← h.1, List.getElem?_concat_length], r⟩
noncomputable abbrev tup (vs : List Value) (n : Nat) : Obj := { cls := .type "tuple", data := .seq vs.toArray n }
/-- a tuple of ints at a, in the ledger -/
noncomputable def IntTup (led : Led) (as : List Int) (b : Addr) : Prop := ∃ vs n, (b, tup vs n) ∈ led ∧ IntsAre vs as
noncomputable def KeyIn (led : Led) (k : Key) (a : Addr) : Prop := ∃ t1 t2 t3 b n, (a, tup [.str k.1 t1, .ref b, .int 0 t2, .int k.2.2 t3] n) ∈ led ∧ IntTup led k.2.1 b
theorem IntTup.mono {led led' : Led} {as : List Int} {b : Addr} (h : IntTup led as b) (k : ∀ p ∈ led, p ∈ led') : IntTup led' as b := let ⟨vs, n, hm, hi⟩ := h; ⟨vs, n, k _ hm, hi⟩
theorem KeyIn.mono {led led' : Led} {x : Key} {a : Addr} (h : KeyIn led x a) (k : ∀ p ∈ led, p ∈ led') : KeyIn led' x a := let ⟨t1, t2, t3, b, n, hm, hi⟩ := h; ⟨t1, t2, t3, b, n, k _ hm, hi.mono k⟩
theorem itemsAre_ints {prog : Program} {w : World} : ∀ {vs : List Value} {as : List Int}, IntsAre vs as → ItemsAre (PySem.intKind prog w) as vs
  | _, _, .nil => .nil
  | _, _, .cons _ _ h => .cons (intKind_is prog w _ _) (itemsAre_ints h)
theorem KeyIn.is {w : World} {g h : Heap} {L : Addr} {led : Led} {k : Key} {a : Addr} (x : KeyIn led k a) (N : News g L h led) : IsKey PRG w h k a := by
  obtain ⟨t1, t2, t3, b, n, hm, vs, n', hb, hi⟩ := x
  exact ⟨_, t1, t2, t3, b, n, N.get hm, rfl, rfl, _, _, _, N.get hb, rfl, rfl, itemsAre_ints hi⟩
structure Nums (w : World) (led : Led) (oN : Obj) (xs : List (Key × Addr × Value)) : Prop where
  ex : oN.ExactDict
  dat : ∃ es ep, oN.data = .dict es ep ∧ es.toList = xs.map (entryOfKey (keyKind PRG w))
  keys : ∀ x ∈ xs, KeyIn led x.1 x.2.1
  nd : (xs.map (·.1)).Nodup
theorem Nums.mono {w : World} {led led' : Led} {oN : Obj} {xs : List (Key × Addr × Value)} (h : Nums w led oN xs) (k : ∀ p ∈ led, p ∈ led') : Nums w led' oN xs := ⟨h.ex, h.dat, fun x hx => (h.keys x hx).mono k, h.nd⟩
theorem Nums.at {w : World} {g h : Heap} {L d : Addr} {led news : Led} {oN : Obj} {xs : List (Key × Addr × Value)} (x : Nums w led oN xs) (N : News g L h news) (hs : ∀ p ∈ led, p ∈ news) (hm : (d, oN) ∈ news) : h.DictOfH (keyKind PRG w) d xs :=
  let ⟨es, ep, hd, he⟩ := x.dat
  ⟨oN, es, ep, N.get hm, x.ex, hd, he, fun y hy => ((x.keys y hy).mono hs).is N, x.nd⟩
section
variable {w : World} {g : Heap} {L : Addr} {a : Addr} {A : Around} {E : Value → Shared → Prop} {gs : Array GenState} {dr : Drawn} {os : OsState} {s : Shared} {d : Addr} {m : Str → Option Value} {news : Led} {led : Led} {oN : Obj} {xs : List (Key × Addr × Value)} {k : Key}
theorem nums_method {name : Str} {id : String} {pl : Sem Bool} {Q : Value × List Value → Shared → Prop} (slot : Slot "dict" name id) (hty : typeOf (.builtin id) = pure (.type "method_descriptor"))
    (N : News g L s.heap news) (H : Nums w led oN xs) (hm : (d, oN) ∈ news) (h : Q (.builtin id, [.ref d]) s) : wpAny (model PRG w) A (getMethod (.ref d) name pl) Q E s :=
  getMethod_builtin ⟨oN, N.get hm, H.ex.1⟩ PySem.F.plainAttrs_dict slot hty (fun b e => by injection e with e; subst e; exact ⟨oN, N.get hm, H.ex.2.1⟩) h
theorem nums_get {dflt : Value} {Q : Value → Shared → Prop} (N : News g L s.heap news) (H : Nums w led oN xs) (hs : ∀ p ∈ led, p ∈ news) (hm : (d, oN) ∈ news) (hk : KeyIn news k a) (lo : (d == sysModules) = false) (hu : A.units + 9 < cLine)
    (h : Q (((atKey xs k).map (·.2)).getD dflt) { s with toks := s.toks + (k.2.1.length + 5) }) : wpAny (model PRG w) A (call (.builtin "dict.get") [.ref d, .ref a, dflt]) Q E s :=
  have hD := H.at N hs hm
  call_meetsIn PySem.F.slot_dict_get hD.typeIs PySem.F.entry_dict_get (PySem.F.args_dict_get_3 _ _ _) (meetsH_dict_get_default (keyKind PRG w) d a lo dflt) ⟨by show A.units + 1 + 8 < cLine; omega, k, xs, hk.is N, hD, h⟩
theorem nums_set {v : Value} {G : Obj → Led} {Q : Unit → Shared → Prop} (F : Fr g L s.heap m) (N : News g L s.heap news) (H : Nums w led oN xs) (hs : ∀ p ∈ led, p ∈ news) (U : UpdF d oN news G) (hk : KeyIn led k a) (hu : A.units + 9 < cLine) (hsz : xs.length ≤ sizeLine)
    (h : ∀ h' o', Fr g L h' m → News g L h' (G o') → Nums w led o' (storedH xs k a v) → Q () { s with heap := h', toks := s.toks + (k.2.1.length + 5) }) : wpAny (model PRG w) A (setItem (.ref d) (.ref a) v) Q E s := by
  obtain ⟨pre, post, rfl, hg, b1, b2⟩ := U.split
  have hm := N (d, oN) (List.mem_append_right _ (.head _))
  have hD := H.at N hs (List.mem_append_right _ (.head _))
  refine wpAny_setItem_heap (hsz := hsz) (knd := keyKind PRG w) (by show A.units + 1 + 8 < cLine; omega) ((hk.mono hs).is N) hD fun h' hmm hsb => ?_
  obtain ⟨o', es', ep', ho', hc', hd', he', _, hn'⟩ := hmm
  refine h h' o' (F.change hsb hm.2.1 hm.2.2) (hg o' ▸ N.setIn b1 b2 hsb ho') ⟨hc', ⟨es', ep', hd', he'⟩, ?_, hn'⟩
  intro x hx
  unfold storedH at hx
  split at hx
  · obtain ⟨y, hy, rfl⟩ := List.mem_map.mp hx
    unfold putAt
    split <;> exact H.keys y hy
  · rcases List.mem_append.mp hx with hx | hx
    · exact H.keys x hx
    · rw [List.mem_singleton.mp hx]; exact hk
theorem nums_get' {dflt : Value} {x : Str} {as : List Int} {dd : Int} {t1 t2 t3 : Tok} {c : Addr} {n : Nat} {Q : Value → Shared → Prop} (N : News g L s.heap news) (H : Nums w led oN xs) (hs : ∀ p ∈ led, p ∈ news) (hm : (d, oN) ∈ news) (ha : (a, tup [.str x t1, .ref c, .int 0 t2, .int dd t3] n) ∈ news) (hc : IntTup led as c) (lo : (d == sysModules) = false) (hu : A.units + 9 < cLine)
    (h : Q (((atKey xs (x, as, dd)).map (·.2)).getD dflt) { s with toks := s.toks + (as.length + 5) }) : wpAny (model PRG w) A (call (.builtin "dict.get") [.ref d, .ref a, dflt]) Q E s :=
  nums_get (k := (x, as, dd)) N H hs hm ⟨t1, t2, t3, c, n, ha, hc.mono hs⟩ lo hu h
theorem nums_set' {v : Value} {x : Str} {as : List Int} {dd : Int} {t1 t2 t3 : Tok} {c : Addr} {n : Nat} {G : Obj → Led} {hp : Heap} {tk : Nat} {Q : Unit → Shared → Prop} (F : autoParam (Fr g L hp m) kA) (N : autoParam (News g L hp news) kA) (H : autoParam (Nums w led oN xs) kA) (hs : autoParam (∀ p ∈ led, p ∈ news) kS) (U : autoParam (UpdF d oN news G) kV) (ha : autoParam ((a, tup [.str x t1, .ref c, .int 0 t2, .int dd t3] n) ∈ news) kM) (hc : autoParam (IntTup led as c) kA) (hu : autoParam (A.units + 9 < cLine) kT) (hsz : xs.length ≤ sizeLine)
    (h : ∀ h' o', Fr g L h' m → News g L h' (G o') → Nums w ((a, tup [.str x t1, .ref c, .int 0 t2, .int dd t3] n) :: led) o' (storedH xs (x, as, dd) a v) → Q () ⟨h', gs, dr, tk + (as.length + 5), os⟩) : wpAny (model PRG w) A (setItem (.ref d) (.ref a) v) Q E ⟨hp, gs, dr, tk, os⟩ :=
  nums_set (s := ⟨hp, gs, dr, tk, os⟩) (k := (x, as, dd)) (led := (a, tup [.str x t1, .ref c, .int 0 t2, .int dd t3] n) :: led) F N (H.mono fun _ hp => .tail _ hp) (by intro p hp; rcases List.mem_cons.mp hp with rfl | hp; exact ha; exact hs p hp) U ⟨t1, t2, t3, c, n, .head _, hc.mono fun _ hp => .tail _ hp⟩ hu hsz h
end
/-- the bank's own addresses -/
structure BA where
  bk : Addr
  bd : Addr
  sw : Addr
  fr : Addr
  to : Addr
  ta : Addr
  ts : Addr
  td : Addr
  nm : Addr
  es : List DictEntry
  nE : Nat
  swO : Obj
  frO : Obj
/-- the bank's state -/
structure BS where
  T : List Key
  ops : List Value
  args : List Value
  sorts : List Value
  datas : List Value
  n1 : Nat
  n2 : Nat
  n3 : Nat
  n4 : Nat
  oN : Obj
  xs : List (Key × Addr × Value)
noncomputable def BL (a : BA) (b : BS) : Led :=
  [(a.bk, instObj 782 a.bd), (a.bd, dictOf a.es a.nE), (a.sw, a.swO), (a.fr, a.frO), (a.to, listOf b.ops.toArray b.n1), (a.ta, listOf b.args.toArray b.n2), (a.ts, listOf b.sorts.toArray b.n3), (a.td, listOf b.datas.toArray b.n4), (a.nm, b.oN)]
noncomputable def BA.adr (a : BA) : List Addr := [a.bk, a.bd, a.sw, a.fr, a.to, a.ta, a.ts, a.td, a.nm]
noncomputable def getIs (es : List DictEntry) (x : String) (v : Option Value) : Prop := getL (Str.ofString x) es = some v
structure BA.Ok (a : BA) : Prop where
  c1 : @LT.lt Nat _ a.bd a.bk
  c2 : @LT.lt Nat _ a.bk a.sw
  c3 : @LT.lt Nat _ a.sw a.fr
  c4 : @LT.lt Nat _ a.fr a.to
  c5 : @LT.lt Nat _ a.to a.ta
  c6 : @LT.lt Nat _ a.ta a.ts
  c7 : @LT.lt Nat _ a.ts a.td
  c8 : @LT.lt Nat _ a.td a.nm
  lo : (a.nm == sysModules) = false
  tn : ∃ t, getL (Str.ofString "true_number") a.es = some (some (.int 1 t))
  fn : ∃ t, getL (Str.ofString "false_number") a.es = some (some (.int 2 t))
  g1 : getL (Str.ofString "sort_widths") a.es = some (some (.ref a.sw))
  g2 : getL (Str.ofString "fun_results") a.es = some (some (.ref a.fr))
  g3 : getL (Str.ofString "term_ops") a.es = some (some (.ref a.to))
  g4 : getL (Str.ofString "term_args") a.es = some (some (.ref a.ta))
  g5 : getL (Str.ofString "term_sorts") a.es = some (some (.ref a.ts))
  g6 : getL (Str.ofString "term_datas") a.es = some (some (.ref a.td))
  g7 : getL (Str.ofString "numbers") a.es = some (some (.ref a.nm))
  /- no attribute of a method's name -/
  no : ∀ x ∈ ["make", "want", "want_all", "bool_term", "not_of", "and_of", "or_of", "xor_of", "implies_of", "eq", "distinct", "ite", "op", "args", "sort", "data", "width", "parts", "parts_of_all", "fun_result"], getL (Str.ofString x) a.es = some none
structure Bank (w : World) (led : Led) (b : BS) : Prop where
  ops : Rel2 (fun v (k : Key) => ∃ t, v = .str k.1 t) b.ops b.T
  args : Rel2 (fun v (k : Key) => ∃ c, v = .ref c ∧ IntTup led k.2.1 c) b.args b.T
  sorts : Rel2 (fun v (_ : Key) => ∃ t, v = .int 0 t) b.sorts b.T
  datas : Rel2 (fun v (k : Key) => ∃ t, v = .int k.2.2 t) b.datas b.T
  nums : Nums w led b.oN b.xs
  sound : ∀ x ∈ b.xs, ∃ (n : Nat) (t : Tok), x.2.2 = .int n t ∧ 1 ≤ n ∧ b.T[n]? = some x.1
  len : b.xs.length ≤ b.T.length
  pos : 1 ≤ b.T.length
theorem Bank.mono {w : World} {led led' : Led} {b : BS} (h : Bank w led b) (k : ∀ p ∈ led, p ∈ led') : Bank w led' b :=
  ⟨h.ops, h.args.mono fun _ _ ⟨c, e, i⟩ => ⟨c, e, i.mono k⟩, h.sorts, h.datas, h.nums.mono k, h.sound, h.len, h.pos⟩
theorem bank_get {w : World} {A : Around} {E : Value → Shared → Prop} {g : Heap} {L d a : Addr} {news led : Led} {b : BS} {dflt : Value} {x : Str} {as : List Int} {dd : Int} {t1 t2 t3 : Tok} {c : Addr} {n : Nat} {hp : Heap} {gs : Array GenState} {dr : Drawn} {tk : Nat} {os : OsState} {Q : Value → Shared → Prop} (N : autoParam (News g L hp news) kA) (H : autoParam (Bank w led b) kA) (hs : autoParam (∀ p ∈ led, p ∈ news) kS) (hm : autoParam ((d, b.oN) ∈ news) kM) (ha : autoParam ((a, tup [.str x t1, .ref c, .int 0 t2, .int dd t3] n) ∈ news) kM) (hc : autoParam (IntTup led as c) kA) (lo : autoParam ((d == sysModules) = false) kA) (hu : autoParam (A.units + 9 < cLine) kT)
    (h0 : atKey b.xs (x, as, dd) = none → Q dflt ⟨hp, gs, dr, tk + (as.length + 5), os⟩)
    (h1 : ∀ (k : Nat) t, 1 ≤ k → b.T[k]? = some (x, as, dd) → Q (.int k t) ⟨hp, gs, dr, tk + (as.length + 5), os⟩) : wpAny (model PRG w) A (call (.builtin "dict.get") [.ref d, .ref a, dflt]) Q E ⟨hp, gs, dr, tk, os⟩ := by
  refine nums_get' (s := ⟨hp, gs, dr, tk, os⟩) N H.nums hs hm ha hc lo hu ?_
  cases hk : atKey b.xs (x, as, dd) with
  | none => exact h0 hk
  | some p =>
    obtain ⟨y, hy, rfl⟩ := Option.map_eq_some_iff.mp hk
    have h2 := List.mem_of_find?_eq_some hy
    have h3 : y.1 = (x, as, dd) := by have := List.find?_some hy; simpa using this
    obtain ⟨k, t, e1, e2, e3⟩ := H.sound y h2
    show Q y.2.2 _
    rw [e1]
    exact h1 k t e2 (by rw [← h3]; exact e3)
noncomputable def Fresh (tl led : Led) : Prop := ∀ p ∈ tl, AllLt p.1 led
theorem AllLt.mem {d : Addr} {l : Led} (h : AllLt d l) : ∀ p ∈ l, @LT.lt Nat _ p.1 d := by
  induction l with
  | nil => intro p hp; cases hp
  | cons q r ih =>
    intro p hp
    rcases List.mem_cons.mp hp with e | hp
    · rw [e]; exact h.1
    · exact ih h.2 p hp
noncomputable def BS.push (b : BS) (op : Str) (as : List Int) (d : Int) (c D : Addr) (tO tS tD t : Tok) (o' : Obj) : BS :=
  ⟨b.T ++ [(op, as, d)], b.ops ++ [.str op tO], b.args ++ [.ref c], b.sorts ++ [.int 0 tS], b.datas ++ [.int d tD], b.n1 + 1, b.n2 + 1, b.n3 + 1, b.n4 + 1, o', storedH b.xs (op, as, d) D (.int (b.ops.toArray.size : Nat) t)⟩
theorem swap1 {g h : Heap} {L D : Addr} {o : Obj} {rest : Led} {a : BA} {b : BS} (N : News g L h ((D, o) :: (BL a b ++ rest))) : News g L h (BL a b ++ ([(D, o)] ++ rest)) := by
  intro p hp
  refine N p ?_
  simp only [List.mem_append, List.mem_cons, List.not_mem_nil, or_false] at hp ⊢
  rcases hp with hp | hp | hp
  · exact .inr (.inl hp)
  · exact .inl hp
  · exact .inr (.inr hp)
theorem Bank.pushed {w : World} {rest : Led} {b : BS} {op : Str} {as : List Int} {d : Int} {c D : Addr} {o' : Obj} {tO tS tD t t1 t2 t3 : Tok} {n : Nat} (hB : Bank w rest b) (hc : IntTup rest as c) (hn : atKey b.xs (op, as, d) = none)
    (hN : Nums w ((D, tup [.str op t1, .ref c, .int 0 t2, .int d t3] n) :: rest) o' (storedH b.xs (op, as, d) D (.int (b.ops.toArray.size : Nat) t))) :
    Bank w ([(D, tup [.str op t1, .ref c, .int 0 t2, .int d t3] n)] ++ rest) (b.push op as d c D tO tS tD t o') := by
  have hB' := hB.mono (led' := (D, tup [.str op t1, .ref c, .int 0 t2, .int d t3] n) :: rest) fun _ hp => .tail _ hp
  have hc' := hc.mono (led' := (D, tup [.str op t1, .ref c, .int 0 t2, .int d t3] n) :: rest) fun _ hp => .tail _ hp
  have h1 : Rel2 (fun v (k : Key) => ∃ t, v = .str k.1 t) (b.ops ++ [.str op tO]) (b.T ++ [(op, as, d)]) := Rel2.push hB'.ops ⟨tO, rfl⟩
  have h2 : Rel2 (fun v (k : Key) => ∃ c', v = .ref c' ∧ IntTup ((D, tup [.str op t1, .ref c, .int 0 t2, .int d t3] n) :: rest) k.2.1 c') (b.args ++ [.ref c]) (b.T ++ [(op, as, d)]) := Rel2.push hB'.args ⟨c, rfl, hc'⟩
  have h3 : Rel2 (fun v (_ : Key) => ∃ t, v = .int 0 t) (b.sorts ++ [.int 0 tS]) (b.T ++ [(op, as, d)]) := Rel2.push hB'.sorts ⟨tS, rfl⟩
  have h4 : Rel2 (fun v (k : Key) => ∃ t, v = .int k.2.2 t) (b.datas ++ [.int d tD]) (b.T ++ [(op, as, d)]) := Rel2.push hB'.datas ⟨tD, rfl⟩
  refine ⟨h1, h2, h3, h4, hN, ?_, ?_, ?_⟩
  · intro x hx
    simp only [BS.push] at hx ⊢
    rw [storedH_new hn] at hx
    rcases List.mem_append.mp hx with hx | hx
    · obtain ⟨k, t, e1, e2, e3⟩ := hB.sound x hx
      refine ⟨k, t, e1, e2, ?_⟩
      rw [List.getElem?_append_left (List.getElem?_eq_some_iff.mp e3).1]; exact e3
    · rw [List.mem_singleton.mp hx]
      refine ⟨b.ops.length, t, by simp, by rw [hB.ops.1]; exact hB.pos, ?_⟩
      rw [hB.ops.1, List.getElem?_concat_length]
  · simp only [BS.push]
    rw [storedH_new hn]
    simp only [List.length_append, List.length_singleton]
    have := hB.len; omega
  · simp [BS.push]
/- Okk -/
/- what the written part says of a class's attribute and method, and of a global name -/
noncomputable def AttrOk (K : Frag) (C : Addr) (x : Str) : Prop := plainGet K C x = true ∧ hasDictIn K C = true ∧ ∃ at', findIn K (.ref C) x = some at' ∧ noGet K at' = true
noncomputable def MethOk (K : Frag) (C : Addr) (x : Str) (f : Addr) : Prop := plainGet K C x = true ∧ findIn K (.ref C) x = some (some (.ref f)) ∧ isFn K (.ref f) = true ∧ keepIn K (.ref f) = true
noncomputable def GlobOk (K : Frag) (x : Str) (v : Value) : Prop := nsIn K mainGlobals x = some (some v)
noncomputable def FunOk (K : Frag) (x : Str) (f : Addr) : Prop := nsIn K mainGlobals x = some (some (.ref f)) ∧ keepIn K (.ref f) = true
noncomputable def okG (cs : Scope) (x : Str) : Bool := cs.kind == .function && cs.names.lookup x == some .globalImplicit && !(x == ("__debug__" : Str))
theorem okG_is {cs : Scope} {x : Str} (h : okG cs x = true) : cs.kind = .function ∧ cs.names.lookup x = some .globalImplicit ∧ (x == ("__debug__" : Str)) = false := by
  unfold okG at h
  simp only [Bool.and_eq_true, beq_iff_eq, Bool.not_eq_true'] at h
  exact ⟨h.1.1, h.1.2, h.2⟩
/- R -/
/-- a frame's names: a list of names, a list of values -/
noncomputable def lkv (names : List Str) (vals : List (Option Value)) (y : Str) : Option Value := ((names.zip vals).lookup y).join
theorem lkv_get : ∀ {names : List Str} {vals : List (Option Value)} {i : Nat} {x : Str} {v : Value}, names.Nodup → names[i]? = some x → vals[i]? = some (some v) → lkv names vals x = some v
  | [], _, _, _, _, _, h, _ => by simp at h
  | y :: r, [], i, _, _, _, _, hv => by simp at hv
  | y :: r, u :: t, 0, x, v, _, hn, hv => by
    simp only [List.getElem?_cons_zero, Option.some.injEq] at hn hv
    subst hn hv
    simp [lkv]
  | y :: r, u :: t, i + 1, x, v, hd, hn, hv => by
    simp only [List.getElem?_cons_succ] at hn hv
    rw [List.nodup_cons] at hd
    have hne : (x == y) = false := by
      rw [beq_eq_false_iff_ne]
      rintro rfl
      exact hd.1 (List.mem_of_getElem? hn)
    have := lkv_get hd.2 hn hv
    unfold lkv at this ⊢
    simp only [List.zip_cons_cons, List.lookup_cons, hne]
    exact this
theorem lkv_set : ∀ {names : List Str} {vals : List (Option Value)} {i : Nat} {x : Str} {v : Value}, names.Nodup → names.length = vals.length → names[i]? = some x → (fun y => if y = x then some v else lkv names vals y) = lkv names (vals.set i (some v))
  | [], _, _, _, _, _, _, h => by simp at h
  | y :: r, [], _, _, _, _, hl, _ => by simp at hl
  | y :: r, u :: t, 0, x, v, hd, _, hn => by
    simp only [List.getElem?_cons_zero, Option.some.injEq] at hn
    subst hn
    funext z
    unfold lkv
    simp only [List.zip_cons_cons, List.lookup_cons, List.set_cons_zero]
    by_cases h : z = y
    · subst h; simp
    · have : (z == y) = false := by rw [beq_eq_false_iff_ne]; exact h
      simp only [this, if_neg h]
  | y :: r, u :: t, i + 1, x, v, hd, hl, hn => by
    simp only [List.getElem?_cons_succ] at hn
    rw [List.nodup_cons] at hd
    have ih := lkv_set (vals := t) (v := v) hd.2 (by simpa using hl) hn
    have hne : x ≠ y := by rintro rfl; exact hd.1 (List.mem_of_getElem? hn)
    funext z
    have ihz := congrFun ih z
    unfold lkv at ihz ⊢
    simp only [List.zip_cons_cons, List.lookup_cons, List.set_cons_succ]
    by_cases h : z = y
    · subst h
      simp [hne.symm]
    · have : (z == y) = false := by rw [beq_eq_false_iff_ne]; exact h
      simp only [this]
      exact ihz
/-- what is bound at the start -/
theorem lkv_start {names : List Str} {vs : List Value} : ∀ {k : Nat}, names.Nodup → (fun y => List.lookup y ((names.zip vs).reverse)) = lkv names (vs.map some ++ List.replicate k none) := by
  intro k hd
  have hgen : ∀ (names : List Str) (vs : List Value), names.Nodup → ∀ y, List.lookup y ((names.zip vs).reverse) = List.lookup y (names.zip vs) := by
    intro names
    induction names with
    | nil => intro vs _ y; rfl
    | cons n r ih =>
      intro vs hd y
      cases vs with
      | nil => rfl
      | cons v t =>
        rw [List.nodup_cons] at hd
        simp only [List.zip_cons_cons, List.reverse_cons, List.lookup_append, List.lookup_cons, List.lookup_nil]
        rw [ih t hd.2 y]
        by_cases h : (y == n) = true
        · have e : y = n := by simpa using h
          subst e
          have : List.lookup y (r.zip t) = none := by
            cases hq : List.lookup y (r.zip t) with
            | none => rfl
            | some z =>
              have : ∀ (l : List (Str × Value)) (z : Value), List.lookup y l = some z → (y, z) ∈ l := by
                intro l
                induction l with
                | nil => intro z h; simp at h
                | cons p l ih =>
                  intro z h
                  rw [List.lookup_cons] at h
                  by_cases hp : (y == p.1) = true
                  · rw [hp] at h
                    have : y = p.1 := by simpa using hp
                    have h2 : p.2 = z := by simpa using h
                    rw [this, ← h2]; exact .head _
                  · rw [Bool.not_eq_true] at hp
                    rw [hp] at h
                    exact .tail _ (ih z h)
              exact absurd (List.of_mem_zip (this _ _ hq)).1 hd.1
          rw [this]; simp
        · rw [Bool.not_eq_true] at h
          simp [h]
  funext y
  rw [hgen names vs hd y]
  unfold lkv
  clear hgen hd
  induction names generalizing vs with
  | nil => rfl
  | cons n r ih =>
    cases vs with
    | nil =>
      simp only [List.map_nil, List.nil_append, List.zip_nil_right, List.lookup_nil]
      have : ∀ (l : List Str) (k : Nat), (List.lookup y (l.zip (List.replicate k (none : Option Value)))).join = none := by
        intro l
        induction l with
        | nil => intro k; rfl
        | cons a l ih =>
          intro k
          cases k with
          | zero => rfl
          | succ k =>
            rw [List.replicate_succ, List.zip_cons_cons, List.lookup_cons]
            cases h : y == a with
            | true => rfl
            | false => exact ih k
      exact (this (n :: r) k).symm
    | cons v t =>
      simp only [List.map_cons, List.cons_append, List.zip_cons_cons, List.lookup_cons]
      cases h : y == n with
      | true => rfl
      | false => exact ih
/-- a local name: its place -/
structure Lv (cs : Scope) (names : List Str) (x : Str) (i : Nat) : Prop where
  ok : okL cs x = true
  at_ : names[i]? = some x
  nd : names.Nodup
section
variable {M : Model} {g : Heap} {L : Addr} {a : Addr} {cn : Str} {cs : Scope} {ccd : Value} {cl : List (Str × Addr)} {names : List Str} {A : Around} {E : Value → Shared → Prop} {env : Env} {gs : Array GenState} {dr : Drawn} {os : OsState} {s : Shared} {vals : List (Option Value)} {news : Led}
theorem e_var {x : Str} {i : Nat} {pos : Pos} {v : Value} {Q : Value → Shared → Prop} (F : autoParam (Fr g L s.heap (lkv names vals)) kA) (hl : autoParam (Lv cs names x i) kA) (hv : autoParam (vals[i]? = some (some v)) kR) (h : Q v s) : wpAny M A (eval (.Name x pos) (envX cn cs L a ccd cl)) Q E s :=
  r_var F (lkv_get hl.nd hl.at_ hv) hl.ok h
theorem s_var {x : Str} {i : Nat} {v : Value} {hp : Heap} {tk : Nat} {Q : Unit → Shared → Prop} (F : autoParam (Fr g L hp (lkv names vals)) kA) (N : autoParam (News g L hp news) kA) (hl : autoParam (Lv cs names x i) kA) (hn : autoParam (names.length = vals.length) kR)
    (h : ∀ h', Fr g L h' (lkv names (vals.set i (some v))) → News g L h' news → Q () ⟨h', gs, dr, tk + 1, os⟩) : wpAny M A (storeName (envX cn cs L a ccd cl) x v) Q E ⟨hp, gs, dr, tk, os⟩ :=
  r_store (s := ⟨hp, gs, dr, tk, os⟩) F N hl.ok fun h' F' N' => h h' (by rw [← lkv_set hl.nd hn hl.at_]; exact F') N'
noncomputable def nst : PySem.Expr → Bool
  | .Starred .. => false
  | _ => true
theorem star_nst {e : PySem.Expr} {rest : List PySem.Expr} (h : nst e = true) : starEach (e :: rest) env = (false, eval e env) :: starEach rest env := by
  cases e <;> first | rfl | exact (Bool.false_ne_true h).elim
theorem any_nst {pos : Pos} : ∀ {es : List PySem.Expr}, es.all nst = true → (backTo pos (starEach es env)).any (·.1) = false
  | [], _ => rfl
  | e :: r, h => by
    simp only [List.all_cons, Bool.and_eq_true] at h
    rw [star_nst h.1]
    show (false || (backTo pos (starEach r env)).any (·.1)) = false
    rw [any_nst h.2]; rfl
noncomputable def nlc : PySem.Expr → Bool
  | .ListComp .. | .SetComp .. | .DictComp .. => false
  | _ => true
theorem swaps_nlc {e : PySem.Expr} {t : Option PySem.Expr} {n : Nat} (h : nlc e = true) : swapsWith e t n env = pure false := by
  cases e <;> first | rfl | exact (Bool.false_ne_true h).elim
noncomputable def nse : PySem.Expr → Bool
  | .Set .. => false
  | _ => true
theorem marks_nse {e : PySem.Expr} {op : CmpOp} (h : nse e = true) : behindInMarks op e = false := by
  cases e <;> first | rfl | exact (Bool.false_ne_true h).elim
noncomputable def wpArgs (M : Model) (A : Around) (E : Value → Shared → Prop) (env : Env) : List PySem.Expr → (List Value → Shared → Prop) → Shared → Prop
  | [], Q, s => Q [] s
  | e :: r, Q, s => wpAny M A (eval e env) (fun v s₁ => wpArgs M A E env r (fun vs s₂ => Q (v :: vs) s₂) s₁) E s
theorem wpArgs_spliced {pos : Pos} : ∀ {es : List PySem.Expr} {Q : List Value → Shared → Prop} {s : Shared}, es.all nst = true → wpArgs M A E env es Q s → wpAny M A (spliced (backTo pos (starEach es env))) Q E s
  | [], _, _, _, h => spliced_none h
  | e :: r, Q, s, hn, h => by
    simp only [List.all_cons, Bool.and_eq_true] at hn
    exact spliced_more (wpAny_mono h (fun v s₁ h₁ => wpArgs_spliced hn.2 h₁) fun _ _ x => x) (star_nst hn.1)
/- statements -/
noncomputable def thn (M : Model) (A : Around) (E : Value → Shared → Prop) (env : Env) (rest : List Stmt) (Q : Flow → Shared → Prop) (f : Flow) (s' : Shared) : Prop :=
  match f with
  | .next => wpAny M A (execs rest env) Q E s'
  | f => Q f s'
theorem x_asg {x : Str} {xp pos : Pos} {value : PySem.Expr} {rest : List Stmt} {Q : Flow → Shared → Prop} (hs : autoParam (nlc value = true) kR)
    (h : wpAny M A (eval value env) (fun v s₁ => wpAny M A (storeName env x v) (fun _ s₂ => wpAny M A (execs rest env) Q E s₂) E s₁) E s) : wpAny M A (execs (.Assign [.Name x xp] value pos :: rest) env) Q E s :=
  wpAny_execs_cons (wpAny_Assign_Name h (swaps_nlc hs))
theorem x_ret {e : PySem.Expr} {pos : Pos} {rest : List Stmt} {Q : Flow → Shared → Prop} (h : wpAny M A (eval e env) (fun v s₁ => Q (.ret v) s₁) E s) : wpAny M A (execs (.Return (some e) pos :: rest) env) Q E s :=
  wpAny_execs_cons (wpAny_Return_some h)
theorem x_if {test : PySem.Expr} {body : List Stmt} {pos : Pos} {rest : List Stmt} {Q : Flow → Shared → Prop}
    (h : wpAny M A (PySem.isTrue test env (eval test env)) (fun b s₂ => if b = true then wpAny M A (execs body env) (thn M A E env rest Q) E s₂ else wpAny M A (execs rest env) Q E s₂) E s) : wpAny M A (execs (.If test body [] pos :: rest) env) Q E s :=
  wpAny_execs_cons (wpAny_If (wpAny_mono h (fun b s₂ h₂ => by
    by_cases hb : b = true
    · rw [if_pos hb] at h₂ ⊢; exact wpAny_mono h₂ (fun f s' h => by cases f <;> exact h) fun _ _ x => x
    · rw [if_neg hb] at h₂ ⊢; exact wpAny_execs_nil h₂) fun _ _ x => x))
theorem x_ife {test : PySem.Expr} {body orelse : List Stmt} {pos : Pos} {rest : List Stmt} {Q : Flow → Shared → Prop}
    (h : wpAny M A (PySem.isTrue test env (eval test env)) (fun b s₂ => if b = true then wpAny M A (execs body env) (thn M A E env rest Q) E s₂ else wpAny M A (execs orelse env) (thn M A E env rest Q) E s₂) E s) : wpAny M A (execs (.If test body orelse pos :: rest) env) Q E s :=
  wpAny_execs_cons (wpAny_If (wpAny_mono h (fun b s₂ h₂ => by
    by_cases hb : b = true
    · rw [if_pos hb] at h₂ ⊢; exact wpAny_mono h₂ (fun f s' h => by cases f <;> exact h) fun _ _ x => x
    · rw [if_neg hb] at h₂ ⊢; exact wpAny_mono h₂ (fun f s' h => by cases f <;> exact h) fun _ _ x => x) fun _ _ x => x))
theorem x_nil {Q : Flow → Shared → Prop} (h : Q .next s) : wpAny M A (execs [] env) Q E s := wpAny_execs_nil h
theorem x_nil_thn {rest : List Stmt} {Q : Flow → Shared → Prop} (h : wpAny M A (execs rest env) Q E s) : wpAny M A (execs [] env) (thn M A E env rest Q) E s := wpAny_execs_nil h
theorem x_cont {pos : Pos} {rest : List Stmt} {Q : Flow → Shared → Prop} (h : Q .cont s) : wpAny M A (execs (.Continue pos :: rest) env) Q E s := wpAny_execs_cons (fun _ _ _ => h)
theorem x_exprN {e : PySem.Expr} {pos : Pos} {rest : List Stmt} {Q : Flow → Shared → Prop} (hi : autoParam (interactive env = false) kR) (hs : autoParam (nlc e = true) kR) (h : wpAny M A (eval e env) (fun v s' => v = .none ∧ wpAny M A (execs rest env) Q E s') E s) : wpAny M A (execs (.Expr e pos :: rest) env) Q E s :=
  wpAny_execs_cons (wpAny_Expr (wpAny_mono h (fun v s' h' => by obtain ⟨rfl, h'⟩ := h'; exact h') fun _ _ x => x) hi (swaps_nlc hs))
theorem x_setsub {o i : PySem.Expr} {xp pos : Pos} {value : PySem.Expr} {rest : List Stmt} {Q : Flow → Shared → Prop} (hs : autoParam (nlc value = true) kR)
    (h : wpAny M A (eval value env) (fun v s₁ => wpAny M A (eval o env) (fun ov s₂ => wpAny M A (eval i env) (fun iv s₃ => wpAny M A (setItem ov iv v) (fun _ s₄ => wpAny M A (execs rest env) Q E s₄) E s₃) E s₂) E s₁) E s) :
    wpAny M A (execs (.Assign [.Subscript o i xp] value pos :: rest) env) Q E s := wpAny_execs_cons (wpAny_Assign_Subscript h (swaps_nlc hs))
/- tests -/
theorem t_cmp {l r : PySem.Expr} {op : CmpOp} {pos : Pos} {whole : Sem Value} {Q : Bool → Shared → Prop} (hn : autoParam (nse r = true) kR)
    (h : wpAny M A (eval l env) (fun a s₁ => wpAny M A (eval r env) (fun b s₂ => wpAny M A (compareOp op a b) (fun c s₃ => wpAny M A (truthy c) Q E s₃) E s₂) E s₁) E s) : wpAny M A (PySem.isTrue (.Compare l [op] [r] pos) env whole) Q E s :=
  wpAny_isTrue_Compare1 h (marks_nse hn)
theorem e_cmp {l r : PySem.Expr} {op : CmpOp} {pos : Pos} {Q : Value → Shared → Prop} (hn : autoParam (nse r = true) kR)
    (h : wpAny M A (eval l env) (fun a s₁ => wpAny M A (eval r env) (fun b s₂ => wpAny M A (compareOp op a b) Q E s₂) E s₁) E s) : wpAny M A (eval (.Compare l [op] [r] pos) env) Q E s :=
  wpAny_Compare1 h (marks_nse hn)
theorem truthy_b {b : Bool} {Q : Bool → Shared → Prop} (h : Q b s) : wpAny M A (truthy (.bool b)) Q E s := wpAny_truthy_bool h
theorem if_t {c : Bool} {P R : Prop} (hc : c = true) (h : P) : if c = true then P else R := by rw [if_pos hc]; exact h
theorem if_f {c : Bool} {P R : Prop} (hc : c = false) (h : R) : if c = true then P else R := by rw [if_neg (by rw [hc]; exact Bool.false_ne_true)]; exact h
theorem if_s {c : Bool} {P R : Prop} (h1 : c = true → P) (h2 : c = false → R) : if c = true then P else R := by cases c with | true => rw [if_pos rfl]; exact h1 rfl | false => rw [if_neg Bool.false_ne_true]; exact h2 rfl
end
section
variable {w : World} {g : Heap} {L : Addr} {a : Addr} {cn : Str} {cs : Scope} {ccd : Value} {cl : List (Str × Addr)} {names : List Str} {C : Addr} {A : Around} {E : Value → Shared → Prop} {gs : Array GenState} {dr : Drawn} {os : OsState} {s : Shared} {vals : List (Option Value)} {news : Led} {o : Addr} {d : Addr} {es : List DictEntry} {n : Nat} {x : Str} {i : Nat}
theorem e_attr {attr : Str} {xp pos : Pos} {v : Value} {hp : Heap} {tk : Nat} {Q : Value → Shared → Prop} (F : autoParam (Fr g L hp (lkv names vals)) kA) (N : autoParam (News g L hp news) kA) (X : autoParam ((heapK w.params).In g) kA) (hl : autoParam (Lv cs names x i) kA) (hv : autoParam (vals[i]? = some (some (.ref o))) kR)
    (ho : autoParam ((o, instObj C d) ∈ news) kM) (hdd : autoParam ((d, dictOf es n) ∈ news) kM) (ha : autoParam (getL attr es = some (some v)) kA) (hk : AttrOk (heapK w.params) C attr) (hh : autoParam (handedIn v = true) kR) (h : Q v ⟨hp, gs, dr, tk + 1, os⟩) :
    wpAny (model PRG w) A (eval (.Attribute (.Name x xp) attr pos) (envX cn cs L a ccd cl)) Q E ⟨hp, gs, dr, tk, os⟩ := by
  obtain ⟨k1, k2, at', k3, k4⟩ := hk
  exact Attribute_any_ (e_var (s := ⟨hp, gs, dr, tk, os⟩) F hl hv (get_own (s := ⟨hp, gs, dr, tk, os⟩) F X (InstAt.of_news N ho hdd) k1 k2 k3 k4 ha hh h)) (by with_unfolding_all rfl)
theorem ev_mcall {env : Env} {ob : PySem.Expr} {meth : Str} {ap pos : Pos} {args : List PySem.Expr} (hb : attributeBase ob meth env (eval ob env) = eval ob env) (hn : args.all nst = true) (hlen : decide (args.length < 30) = true) (hp : (ap.endLine == pos.line) = true) :
    eval (.Call (.Attribute ob meth ap) args [] pos) env = (do
      let ov ← eval ob env
      standAt ap.atName
      let (f, first) ← holding [ov] (getMethod ov meth (do return (← importBound ob env).getD true))
      callWith pos f first (backTo pos (starEach args env)) []) := by
  have hform : methodCallForm (args.length + ([] : List Keyword).length) (backTo pos (starEach args env)) [] = true := by
    unfold methodCallForm
    have h1 : (backTo pos (starEach args env)).all (!·.1) = true := by
      have := any_nst (env := env) (pos := pos) hn
      rw [List.any_eq_false] at this
      rw [List.all_eq_true]
      intro x hx
      have := this x hx
      simpa using this
    rw [h1]
    simp only [List.all_nil, List.isEmpty_nil, if_true, Bool.true_and, List.length_nil, Nat.add_zero]
    simpa using hlen
  show (attributeBase ob meth env (eval ob env) >>= fun ov => standAt ap.atName >>= fun _ => methodCall ob meth ap pos env ov (args.length + ([] : List Keyword).length) (backTo pos (starEach args env)) (backToKw pos (keywordEach [] env))) = _
  rw [hb]
  congr 1
  funext ov
  congr 1
  funext _
  show methodCall ob meth ap pos env ov _ _ [] = _
  unfold methodCall
  rw [hform]
  unfold calleeOf methodCallPos
  rw [hp]
  rfl
theorem base_name {env : Env} {x meth : Str} {xp : Pos} {t : Sem Value} : attributeBase (.Name x xp) meth env t = t := rfl
theorem base_attr {env : Env} {ob : PySem.Expr} {x meth : Str} {xp : Pos} {t : Sem Value} : attributeBase (.Attribute ob x xp) meth env t = t := rfl
theorem e_mcall {meth : Str} {xp ap pos : Pos} {args : List PySem.Expr} {f : Addr} {Q : Value → Shared → Prop} (F : autoParam (Fr g L s.heap (lkv names vals)) kA) (N : autoParam (News g L s.heap news) kA) (X : autoParam ((heapK w.params).In g) kA) (hl : autoParam (Lv cs names x i) kA) (hv : autoParam (vals[i]? = some (some (.ref o))) kR)
    (ho : autoParam ((o, instObj C d) ∈ news) kM) (hdd : autoParam ((d, dictOf es n) ∈ news) kM) (ha : autoParam (getL meth es = some none) kA) (hk : MethOk (heapK w.params) C meth f) (hn : autoParam (args.all nst = true) kR) (he : autoParam (args.isEmpty = false) kR) (hlen : autoParam (decide (args.length < 30) = true) kR) (hp : autoParam ((ap.endLine == pos.line) = true) kR)
    (h : wpArgs (model PRG w) A E (envX cn cs L a ccd cl) args (fun vs s₁ => (heapK w.params).In s₁.heap ∧ wpAny (model PRG w) A (call (.ref f) (.ref o :: vs)) Q E s₁) s) :
    wpAny (model PRG w) A (eval (.Call (.Attribute (.Name x xp) meth ap) args [] pos) (envX cn cs L a ccd cl)) Q E s := by
  obtain ⟨k1, k2, k3, k4⟩ := hk
  refine MethodCall_ (pl := _) (e_var F hl hv (method_inst F X (InstAt.of_news N ho hdd) k1 k2 k3 ha ?_)) (ev_mcall base_name hn hlen hp)
  cases args with
  | nil => cases he
  | cons e r =>
    refine callWith_K X k4 (wpArgs_spliced hn ?_) ?_ ?_
    · exact h
    · simp only [List.all_cons, Bool.and_eq_true] at hn; exact star_nst hn.1
    · simp only [List.all_cons, Bool.and_eq_true] at hn; exact any_nst hn.2
theorem e_gcall {fp pos : Pos} {args : List PySem.Expr} {f : Addr} {m : Str → Option Value} {mg mb : Str → Option Value} {mean : ExcName → Option Value} {Q : Value → Shared → Prop} (F : autoParam (Fr g L s.heap m) kA) (X : autoParam ((heapK w.params).In g) kA) (T : autoParam (Top viewK (looseW viewK [Str.ofString "MOST_BITS"]) mean mg mb g) kA)
    (hx : autoParam (okG cs x = true) kK) (hk : FunOk (heapK w.params) x f) (hn : autoParam (args.all nst = true) kR) (he : autoParam (args.isEmpty = false) kR)
    (h : wpArgs (model PRG w) A E (envX cn cs L a ccd cl) args (fun vs s₁ => (heapK w.params).In s₁.heap ∧ wpAny (model PRG w) A (call (.ref f) vs) Q E s₁) s) :
    wpAny (model PRG w) A (eval (.Call (.Name x fp) args [] pos) (envX cn cs L a ccd cl)) Q E s := by
  obtain ⟨k1, k2⟩ := hk
  obtain ⟨a1, a2, a3⟩ := okG_is hx
  refine Call_ (nameX_K F X (topRead_of T) k1 ?_ a1 a2 a3) (by with_unfolding_all rfl)
  cases args with
  | nil => cases he
  | cons e r =>
    refine callWith_K X k2 (wpArgs_spliced hn ?_) ?_ ?_
    · exact h
    · simp only [List.all_cons, Bool.and_eq_true] at hn; exact star_nst hn.1
    · simp only [List.all_cons, Bool.and_eq_true] at hn; exact any_nst hn.2
theorem e_glob {pos : Pos} {v : Value} {m : Str → Option Value} {mg mb : Str → Option Value} {mean : ExcName → Option Value} {Q : Value → Shared → Prop} (F : Fr g L s.heap m) (X : (heapK w.params).In g) (T : Top viewK (looseW viewK [Str.ofString "MOST_BITS"]) mean mg mb g)
    (hx : okG cs x = true) (hk : GlobOk (heapK w.params) x v) (h : Q v s) : wpAny (model PRG w) A (eval (.Name x pos) (envX cn cs L a ccd cl)) Q E s := by
  obtain ⟨a1, a2, a3⟩ := okG_is hx
  exact nameX_K F X (topRead_of T) hk h a1 a2 a3
end
theorem does_intro' {w : World} {f : Addr} {args : List Value} {D U : Nat} {news : Led} {Post : Value → Led → Prop}
    {name qual : Str} {params : Arguments} {body : List Stmt} {scope : Scope} {dV kV doc pm cdv ct oc : Value} {an od : Option Addr} {osl : Array (Option Value)} (names : List Str) (k : Nat) (vals : List (Option Value)) (hvals : args.map some ++ List.replicate k none = vals)
    (ho : (heapK w.params).lookup f = some ⟨oc, od, .func (fnOf name qual params body scope dV kV doc pm an cdv ct), osl⟩) (hcd : codeIn (heapK w.params) cdv qual = true) (hD : D < 900)
    (hbind : bindArgs (fnOf name qual params body scope dV kV doc pm an cdv ct) ⟨args, []⟩ = pure (names.zip args)) (hall : names.all (okL scope) = true) (hnd : decide names.Nodup = true)
    (hco : scope.isCoroutine = false) (hgen : scope.isGenerator = false) (hk : scope.kind = .function) (hcell : ∀ x ∈ scope.names, x.2 ≠ .cell)
    (h : ∀ (K : KK) (A₀ : Around) (base : Heap) (mean : ExcName → Option Value) (mg mb : Str → Option Value) (g : Heap) (L : Addr) (h : Heap) (gs : Array GenState) (dr : Drawn) (os : OsState) (tk : Nat) (Q : Flow → Shared → Prop),
      (∀ i x, names[i]? = some x → Lv scope names x i) →
      Below A₀ base K.outer g → (heapK w.params).In g → Top viewK (looseW viewK [Str.ofString "MOST_BITS"]) mean mg mb g →
      Fr g L h (lkv names vals) → News g L h news → (∀ p ∈ news, p.1 < L) → K.dp ≤ D + 1 → K.un ≤ U + 3 →
      (∀ fl s', Back g L gs dr os Post fl s' → Q fl s') →
      wpAny (model PySem.Challenge.rw_qz0034_01.row.prog w) (ktrK qual scope f cdv [] K L) (execs body (envX qual scope L f cdv [])) Q (fun _ _ => False) ⟨h, gs, dr, tk, os⟩) :
    Does w f args D U news Post := by
  have hnd' : names.Nodup := of_decide_eq_true hnd
  have hok : ∀ x ∈ names, okL scope x = true := List.all_eq_true.mp hall
  refine does_intro (binds := names.zip args) ho hcd hD hbind rfl ?_ hco hgen hk hcell ?_
  · rw [List.all_eq_true]
    rintro ⟨x, v⟩ hx
    exact decide_eq_true (okL_is (hok x (List.of_mem_zip hx).1)).2.1
  · intro dp un gd outer A₀ base mean mg mb g L hh gs dr os tk Q B X T F N lt h1 h2 hq
    rw [lkv_start (k := k) hnd', hvals] at F
    exact h ⟨dp, un, gd, outer⟩ A₀ base mean mg mb g L hh gs dr os tk Q (fun i x hx => ⟨hok x (List.mem_of_getElem? hx), hx, hnd'⟩) B X T F N lt h1 h2 hq
section
variable {M : Model} {A : Around} {E : Value → Shared → Prop} {env : Env} {gs : Array GenState} {dr : Drawn} {os : OsState} {s : Shared}
theorem wa_nil {Q : List Value → Shared → Prop} (h : Q [] s) : wpArgs M A E env [] Q s := h
theorem wa_cons {e : PySem.Expr} {r : List PySem.Expr} {Q : List Value → Shared → Prop} (h : wpAny M A (eval e env) (fun v s₁ => wpArgs M A E env r (fun vs s₂ => Q (v :: vs) s₂) s₁) E s) : wpArgs M A E env (e :: r) Q s := h
theorem e_str {x : Str} {k : Nat} {pos : Pos} {hp : Heap} {tk : Nat} {Q : Value → Shared → Prop} (h : Q (.str x tk) ⟨hp, gs, dr, tk + 1, os⟩) : wpAny M A (eval (.Constant (.str x) k pos) env) Q E ⟨hp, gs, dr, tk, os⟩ := Calls.Constant_str (s := ⟨hp, gs, dr, tk, os⟩) h
theorem e_int {x : Int} {k : Nat} {pos : Pos} {hp : Heap} {tk : Nat} {Q : Value → Shared → Prop} (h : Q (.int x tk) ⟨hp, gs, dr, tk + 1, os⟩) : wpAny M A (eval (.Constant (.int x) k pos) env) Q E ⟨hp, gs, dr, tk, os⟩ := wpAny_Constant_int (s := ⟨hp, gs, dr, tk, os⟩) h
theorem e_tup {elts : List PySem.Expr} {k : Nat} {pos : Pos} {Q : Value → Shared → Prop} (hn : autoParam (elts.all nst = true) kR) (h : wpArgs M A E env elts (fun vs s₁ => wpAny M A (newTuple vs) Q E s₁) s) : wpAny M A (eval (.Tuple elts k pos) env) Q E s := Tuple_ (wpArgs_spliced hn h)
theorem e_list {elts : List PySem.Expr} {pos : Pos} {Q : Value → Shared → Prop} (hn : autoParam (elts.all nst = true) kR) (h : wpArgs M A E env elts (fun vs s₁ => wpAny M A (newList vs) Q E s₁) s) : wpAny M A (eval (.List elts pos) env) Q E s := List_ (wpArgs_spliced hn h)
theorem n_tup {g : Heap} {L : Addr} {m : Str → Option Value} {news : Led} {vs : List Value} {hp : Heap} {tk : Nat} {Q : Value → Shared → Prop} (F : autoParam (Fr g L hp m) kA) (N : autoParam (News g L hp news) kA) (hz : autoParam (decide (vs.length ≤ 1000) = true) kR)
    (h : ∀ D h', Fr g L h' m → News g L h' ((D, tup vs 0) :: news) → AllLt D news → Q (.ref D) ⟨h', gs, dr, tk, os⟩) : wpAny M A (newTuple vs) Q E ⟨hp, gs, dr, tk, os⟩ :=
  kup_newTuple (s := ⟨hp, gs, dr, tk, os⟩) F N (fun D h' F' N' lt => h D h' F' N' (allLt_of lt)) (by have := of_decide_eq_true hz; rw [sizeLine_eq]; omega)
theorem n_list {g : Heap} {L : Addr} {m : Str → Option Value} {news : Led} {vs : List Value} {hp : Heap} {tk : Nat} {Q : Value → Shared → Prop} (F : autoParam (Fr g L hp m) kA) (N : autoParam (News g L hp news) kA) (hz : autoParam (decide (vs.length ≤ 1000) = true) kR)
    (h : ∀ D h', Fr g L h' m → News g L h' ((D, listOf vs.toArray 0) :: news) → AllLt D news → Q (.ref D) ⟨h', gs, dr, tk, os⟩) : wpAny M A (newList vs) Q E ⟨hp, gs, dr, tk, os⟩ :=
  newList_K (s := ⟨hp, gs, dr, tk, os⟩) F N (fun D h' F' N' lt => h D h' F' N' (allLt_of lt)) (by have := of_decide_eq_true hz; rw [sizeLine_eq]; omega)
end
section
variable {w : World} {g : Heap} {L : Addr} {a : Addr} {cn : Str} {cs : Scope} {ccd : Value} {cl : List (Str × Addr)} {names : List Str} {C : Addr} {A : Around} {E : Value → Shared → Prop} {gs : Array GenState} {dr : Drawn} {os : OsState} {s : Shared} {vals : List (Option Value)} {news : Led} {o : Addr} {d : Addr} {l : Addr} {es : List DictEntry} {n : Nat} {x : Str} {i : Nat}
theorem gm_list {name : Str} {id : String} {pl : Sem Bool} {its : Array Value} {nl : Nat} {Q : Value × List Value → Shared → Prop} (slot : Slot "list" name id) (hty : typeOf (.builtin id) = pure (.type "method_descriptor")) (N : News g L s.heap news) (hm : (l, listOf its nl) ∈ news) (h : Q (.builtin id, [.ref l]) s) :
    wpAny (model PRG w) A (getMethod (.ref l) name pl) Q E s :=
  getMethod_builtin ⟨_, N.get hm, rfl⟩ PySem.F.plainAttrs_list slot hty (fun b e => by injection e with e; subst e; exact ⟨_, N.get hm, rfl⟩) h
/-- a method of a built-in kind of what an attribute holds -/
theorem e_ameth {attr meth : Str} {id : String} {xp xp2 ap pos : Pos} {args : List PySem.Expr} {hp' : Heap} {tk : Nat} {Q : Value → Shared → Prop} (F : Fr g L hp' (lkv names vals)) (N : News g L hp' news) (X : (heapK w.params).In g) (hl : Lv cs names x i) (hv : vals[i]? = some (some (.ref o)))
    (ho : (o, instObj C d) ∈ news) (hdd : (d, dictOf es n) ∈ news) (ha : getL attr es = some (some (.ref l))) (hk : AttrOk (heapK w.params) C attr) (hn : args.all nst = true) (he : args.isEmpty = false) (hlen : decide (args.length < 30) = true) (hp : (ap.endLine == pos.line) = true)
    (hg : ∀ (pl : Sem Bool) (R : Value × List Value → Shared → Prop), R (.builtin id, [.ref l]) ⟨hp', gs, dr, tk + 1, os⟩ → wpAny (model PRG w) A (getMethod (.ref l) meth pl) R E ⟨hp', gs, dr, tk + 1, os⟩)
    (h : wpArgs (model PRG w) A E (envX cn cs L a ccd cl) args (fun vs s₁ => wpAny (model PRG w) A (call (.builtin id) (.ref l :: vs)) Q E s₁) ⟨hp', gs, dr, tk + 1, os⟩) :
    wpAny (model PRG w) A (eval (.Call (.Attribute (.Attribute (.Name x xp) attr xp2) meth ap) args [] pos) (envX cn cs L a ccd cl)) Q E ⟨hp', gs, dr, tk, os⟩ := by
  refine MethodCall_ (pl := _) (e_attr F N X hl hv ho hdd ha hk rfl (hg _ _ ?_)) (ev_mcall base_attr hn hlen hp)
  cases args with
  | nil => cases he
  | cons e r =>
    refine callWith_method1 (wpArgs_spliced hn ?_) ?_ ?_
    · exact h
    · simp only [List.all_cons, Bool.and_eq_true] at hn; exact star_nst hn.1
    · simp only [List.all_cons, Bool.and_eq_true] at hn; exact any_nst hn.2
/-- a method of a built-in kind of what a name holds -/
theorem e_nmeth {meth : Str} {id : String} {xp ap pos : Pos} {args : List PySem.Expr} {Q : Value → Shared → Prop} (F : Fr g L s.heap (lkv names vals)) (hl : Lv cs names x i) (hv : vals[i]? = some (some (.ref l)))
    (hn : args.all nst = true) (he : args.isEmpty = false) (hlen : decide (args.length < 30) = true) (hp : (ap.endLine == pos.line) = true)
    (hg : ∀ (pl : Sem Bool) (R : Value × List Value → Shared → Prop), R (.builtin id, [.ref l]) s → wpAny (model PRG w) A (getMethod (.ref l) meth pl) R E s)
    (h : wpArgs (model PRG w) A E (envX cn cs L a ccd cl) args (fun vs s₁ => wpAny (model PRG w) A (call (.builtin id) (.ref l :: vs)) Q E s₁) s) :
    wpAny (model PRG w) A (eval (.Call (.Attribute (.Name x xp) meth ap) args [] pos) (envX cn cs L a ccd cl)) Q E s := by
  refine MethodCall_ (pl := _) (e_var F hl hv (hg _ _ ?_)) (ev_mcall base_name hn hlen hp)
  cases args with
  | nil => cases he
  | cons e r =>
    refine callWith_method1 (wpArgs_spliced hn ?_) ?_ ?_
    · exact h
    · simp only [List.all_cons, Bool.and_eq_true] at hn; exact star_nst hn.1
    · simp only [List.all_cons, Bool.and_eq_true] at hn; exact any_nst hn.2
theorem c_append {m : Str → Option Value} {its : Array Value} {nl : Nat} {v : Value} {news' : Led} {hp : Heap} {tk : Nat} {Q : Value → Shared → Prop} (F : autoParam (Fr g L hp m) kA) (N : autoParam (News g L hp news) kA) (U : autoParam (Upd l (listOf its nl) (listOf (its.push v) (nl + 1)) news news') kU) (hz : its.size ≤ 100000)
    (h : ∀ h', Fr g L h' m → News g L h' news' → Q .none ⟨h', gs, dr, tk, os⟩) : wpAny (model PRG w) A (call (.builtin "list.append") [.ref l, v]) Q E ⟨hp, gs, dr, tk, os⟩ :=
  append_K (s := ⟨hp, gs, dr, tk, os⟩) F N U h (by rw [sizeLine_eq]; omega)
theorem e_bcall {id : String} {fp pos : Pos} {args : List PySem.Expr} {m : Str → Option Value} {mg mb : Str → Option Value} {mean : ExcName → Option Value} {Q : Value → Shared → Prop} (F : autoParam (Fr g L s.heap m) kA) (X : autoParam ((heapK w.params).In g) kA) (T : autoParam (Top viewK (looseW viewK [Str.ofString "MOST_BITS"]) mean mg mb g) kA)
    (hx : autoParam (okG cs x = true) kK) (hk : nsIn (heapK w.params) mainGlobals x = some none) (hb : bootBuiltins x = some (.builtin id)) (hne : x ≠ "__name__") (hn : autoParam (args.all nst = true) kR) (he : autoParam (args.isEmpty = false) kR)
    (h : wpArgs (model PRG w) A E (envX cn cs L a ccd cl) args (fun vs s₁ => wpAny (model PRG w) A (call (.builtin id) vs) Q E s₁) s) :
    wpAny (model PRG w) A (eval (.Call (.Name x fp) args [] pos) (envX cn cs L a ccd cl)) Q E s := by
  obtain ⟨a1, a2, a3⟩ := okG_is hx
  refine Call_ (nameX_B F X (topRead_of T) hk hb hne ?_ a1 a2 a3) (by with_unfolding_all rfl)
  cases args with
  | nil => cases he
  | cons e r =>
    refine PyProof.Rows.callWith_builtin1 (wpArgs_spliced hn ?_) ?_ ?_
    · exact h
    · simp only [List.all_cons, Bool.and_eq_true] at hn; exact star_nst hn.1
    · simp only [List.all_cons, Bool.and_eq_true] at hn; exact any_nst hn.2
end
theorem In.of {w : World} {g h : Heap} {L : Addr} {m : Str → Option Value} (X : (heapK w.params).In g) (F : Fr g L h m) : (heapK w.params).In h := X.keeps F.keep
theorem c_len {w : World} {A : Around} {E : Value → Shared → Prop} {g : Heap} {L l : Addr} {news : Led} {its : Array Value} {n : Nat} {hp : Heap} {gs : Array GenState} {dr : Drawn} {tk : Nat} {os : OsState} {Q : Value → Shared → Prop} (N : autoParam (News g L hp news) kA) (hm : autoParam ((l, listOf its n) ∈ news) kM) (hz : its.size ≤ 100000)
    (h : Q (.int its.size (tk + 1)) ⟨hp, gs, dr, tk + 2, os⟩) : wpAny (model PRG w) A (call (.builtin "len") [.ref l]) Q E ⟨hp, gs, dr, tk, os⟩ := len_N (s := ⟨hp, gs, dr, tk, os⟩) N hm (by omega) h
theorem News.perm {g h : Heap} {L : Addr} {l l' : Led} (N : News g L h l) (k : ∀ p ∈ l', p ∈ l) : News g L h l' := fun p hp => N p (k p hp)
theorem e_globI {w : World} {A : Around} {E : Value → Shared → Prop} {s : Shared} {g : Heap} {L a : Addr} {cn : Str} {cs : Scope} {ccd : Value} {cl : List (Str × Addr)} {x : Str} {pos : Pos} {i : Int} {m : Str → Option Value} {mg mb : Str → Option Value} {mean : ExcName → Option Value} {Q : Value → Shared → Prop} (F : autoParam (Fr g L s.heap m) kA) (X : autoParam ((heapK w.params).In g) kA) (T : autoParam (Top viewK (looseW viewK [Str.ofString "MOST_BITS"]) mean mg mb g) kA)
    (hx : autoParam (okG cs x = true) kK) (hk : ∃ t, GlobOk (heapK w.params) x (.int i t)) (h : ∀ t, Q (.int i t) s) : wpAny (model PRG w) A (eval (.Name x pos) (envX cn cs L a ccd cl)) Q E s := by
  obtain ⟨t, hk⟩ := hk
  exact e_glob F X T hx hk (h t)
/- RevTup -/
theorem rv_owner : Manifest.owners.lookup (String.ofList ['d', 'e', 's', 'r', 'e', 'v', 'e', 'r'].reverse) = some Manifest.sig_reversed := by kernel_rfl
theorem rv_slot_next : Slot "reversed" "__next__" "reversed.__next__" :=
  .of (owner := "reversed") (n := "__next__") (by rw [typeLookup_type, builtinLookup_eq_fast]; kernel_rfl) (by decide +kernel) (by decide +kernel) (by decide +kernel)
    (by first | exact .inl (by decide +kernel) | exact .inr (by decide +kernel)) (by rw [isSubtype_type]; kernel_rfl)
theorem rv_entry_next : entryFor table "reversed.__next__" = some Builtin.«reversed.__next__» := entryFor_of_tree (by kernel_rfl)
theorem rv_args_next (a : Value) : argsOk "reversed.__next__" ⟨[a], []⟩ := by
  unfold argsOk; rw [signature?_of (id := "reversed.__next__") (n := ['_', '_', 't', 'x', 'e', 'n', '_', '_']) (o := ['d', 'e', 's', 'r', 'e', 'v', 'e', 'r']) (by kernel_rfl) rv_owner]; kernel_rfl
theorem rv_slot_iter : Slot "reversed" "__iter__" "reversed.__iter__" :=
  .of (owner := "reversed") (n := "__iter__") (by rw [typeLookup_type, builtinLookup_eq_fast]; kernel_rfl) (by decide +kernel) (by decide +kernel) (by decide +kernel)
    (by first | exact .inl (by decide +kernel) | exact .inr (by decide +kernel)) (by rw [isSubtype_type]; kernel_rfl)
theorem rv_args_iter (a : Value) : argsOk "reversed.__iter__" ⟨[a], []⟩ := by
  unfold argsOk; rw [signature?_of (id := "reversed.__iter__") (n := ['_', '_', 'r', 'e', 't', 'i', '_', '_']) (o := ['d', 'e', 's', 'r', 'e', 'v', 'e', 'r']) (by kernel_rfl) rv_owner]; kernel_rfl
theorem rv_entry_iter : entryFor table "reversed.__iter__" = some Builtin.«dict_keyiterator.__iter__» :=
  entryFor_alias (id' := "dict_keyiterator.__iter__") (by kernel_rfl) (by first | rfl | decide +kernel | (unfold String.splitOn; simp +decide [String.splitOnAux])) (by decide +kernel) (by kernel_rfl)
theorem rv_slot_init : Slot "reversed" "__init__" "object.__init__" :=
  .of (owner := "object") (n := "__init__") (by rw [typeLookup_type, builtinLookup_eq_fast]; kernel_rfl) (by decide +kernel) (by decide +kernel) (by decide +kernel)
    (by first | exact .inl (by decide +kernel) | exact .inr (by decide +kernel)) (by rw [isSubtype_type]; kernel_rfl)
theorem rv_called : TypeCalled "reversed" "reversed.__new__" "object.__init__" :=
  ⟨by decide +kernel, by decide +kernel, ⟨_, _, F.mro_reversed⟩, F.made_reversed, by decide +kernel, by rw [isSubtype_type]; kernel_rfl, rv_slot_init⟩
theorem rv_none : typeLookup (.type "tuple") "__reversed__" = pure none := by rw [typeLookup_type, builtinLookup_eq_fast]; kernel_rfl
theorem rv_sub_td : isSubtype (.type "tuple") (.type "dict") = pure false := by rw [isSubtype_type]; kernel_rfl
noncomputable def rvObj (l : Addr) (i : Int) : Obj := { cls := .type "reversed", data := .fields #[.ref l, rawInt i] }
noncomputable def IsRv (h : Heap) (a l : Addr) (i : Int) : Prop := ∃ o, h.get? a = some o ∧ o.cls = .type "reversed" ∧ o.data = .fields #[.ref l, rawInt i]
section
variable {prog : Program} {w : World} {A : Around} {E : Value → Shared → Prop} {s : Shared}
theorem IsRv.typeIs {a l : Addr} {i : Int} (x : IsRv s.heap a l i) : s.TypeIs (.ref a) "reversed" := let ⟨o, ho, hc, _⟩ := x; ⟨o, ho, hc⟩
theorem IsRv.at {h h' : Heap} {a l : Addr} {i : Int} (x : IsRv h a l i) (e : ∀ o, h.get? a = some o → h'.get? a = some o) : IsRv h' a l i := let ⟨o, ho, r⟩ := x; ⟨o, e _ ho, r⟩
theorem Tup_len {t : Addr} {items : Array Value} {Q : Value → Shared → Prop} (ht : IsTup s.heap t items) (hfit : (items.size : Int) < 2 ^ 63)
    (h : Q (.int items.size (s.toks + 1)) { s with toks := s.toks + 1 + 1 }) : wpAny (model prog w) A (call (.builtin "len") [.ref t]) Q E s := PyProof.Rows.len_tuple ht hfit h
theorem code_rv_new {l : Addr} {items : Array Value} {Q₁ : Value → Shared → Prop} (hl : IsTup s.heap l items) (hfit : (items.size : Int) < 2 ^ 63)
    (h : Q₁ (.ref s.heap.objs.size) { s with heap := s.heap.push (rvObj l ((items.size : Int) - 1)), toks := s.toks + 1 + 1 }) :
    codeAny (model prog w) A (.call (.builtin "reversed.__new__") ⟨[.type "reversed", .ref l], []⟩) (wants Q₁ E) s := by
  refine codeAny_of_tree ?_
  show wpAny _ A.in1 (do checkBuiltinCall "reversed.__new__" ⟨[.type "reversed", .ref l], []⟩; again (.builtin "reversed.__new__" ⟨[.type "reversed", .ref l], []⟩)) _ _ s
  refine wpAny_bind (wpAny_of_eq (F.newCall_reversed_1 _) (wpAny_pure ⟨plainId_quiet F.plain_reversed_new _, codeAny_builtin F.entry_reversed_new ?_⟩))
  rw [Around.under_plainId F.plain_reversed_new _]
  unfold Builtin.«reversed.__new__»
  refine wpAny_bind (wpAny_of_eq (newClass_reversed _) ?_)
  try dsimp only
  refine wpAny_bind (wpAny_of_eq (a := ()) (by first | rfl | kernel_rfl) ?_)
  refine wpAny_bind (wpAny_of_eq (a := ()) (by first | rfl | kernel_rfl) ?_)
  try dsimp only
  refine wpAny_bind (wpAny_specialOf hl.typeIs rv_none ?_)
  try dsimp only
  refine wpAny_bind ?_
  show wpAny _ _ (isInstance (.ref l) (.type "dict") >>= _) _ _ s
  refine wpAny_bind (wpAny_isInstance hl.typeIs rv_sub_td ?_)
  show wpAny _ _ (specialOf (.ref l) "__getitem__" >>= _) _ _ s
  refine wpAny_bind (wpAny_specialOf hl.typeIs slot_tuple_getitem.lookup ?_)
  show wpAny _ _ (if (["tuple.__getitem__", "str.__getitem__", "bytes.__getitem__", "bytearray.__getitem__", "memoryview.__getitem__", "numpy.ndarray.__getitem__", "sqlite3.Row.__getitem__"].contains "tuple.__getitem__") = true then _ else _) _ _ s
  rw [if_pos (by decide)]
  refine wpAny_pure ?_
  show wpAny _ _ (call (.builtin "len") [.ref l] >>= _) _ _ s
  refine wpAny_bind (Tup_len hl hfit ?_)
  refine wpAny_bind (wpAny_of_eq (a := some (items.size : Int)) rfl ?_)
  show wpAny _ _ (newObj (.type "reversed") (.fields #[.ref l, rawInt ((items.size : Int) - 1)]) >>= _) _ _ _
  refine wpAny_bind (wpAny_newObj_type ?_ (by size_fits))
  exact wpAny_pure h
theorem call_rv {l : Addr} {items : Array Value} {Q : Value → Shared → Prop} (hl : IsTup s.heap l items) (hfit : (items.size : Int) < 2 ^ 63)
    (h : Q (.ref s.heap.objs.size) { s with heap := s.heap.push (rvObj l ((items.size : Int) - 1)), toks := s.toks + 1 + 1 }) : wpAny (model prog w) A (call (.type "reversed") [.ref l]) Q E s := by
  refine callType_codes (Q₁ := fun obj s₁ => obj = .ref s.heap.objs.size ∧ s₁ = { s with heap := s.heap.push (rvObj l ((items.size : Int) - 1)), toks := s.toks + 1 + 1 }) rv_called (F.typeCall_reversed_1 _) F.entry_object_init (code_rv_new hl hfit ⟨rfl, rfl⟩) ?_
  rintro obj s₁ ⟨rfl, rfl⟩
  have hT : Shared.TypeIs { s with heap := s.heap.push (rvObj l ((items.size : Int) - 1)), toks := s.toks + 1 + 1 } (.ref s.heap.objs.size) "reversed" := ⟨_, Heap.get?_push_size _ rfl, rfl⟩
  refine ⟨hT, F.args_object_init_2 _ _, ?_⟩
  exact object_init_meets rv_slot_init.lookup F.made_reversed (by decide) prog w A.in1 (wants (fun r s₂ => r = .none ∧ Q (.ref s.heap.objs.size) s₂) E) _ ⟨hT, rfl, h⟩
theorem rv_next_item {it l : Addr} {i : Nat} {items : Array Value} {x : Value} {Q : Option Value → Shared → Prop} (hit : IsRv s.heap it l (i : Int)) (hl : IsTup s.heap l items) (hx : items[i]? = some x) (hi : (i : Int) < 2 ^ 63)
    (hQ : ∀ h', IsRv h' it l ((i : Int) - 1) → Heap.SameBut it s.heap h' → Q (some x) { s with heap := h', toks := s.toks + 1 }) : wpAny (model prog w) A (pyNext (.ref it)) Q E s := by
  obtain ⟨o, ho, hc, hd⟩ := id hit
  unfold pyNext
  refine wpAny_bind (wpAny_attempt (wpAny_callSpecial?_slot (name := Str.ofString "__next__") hit.typeIs rv_slot_next
    (wpAny_call_entry rv_slot_next hit.typeIs rv_entry_next ?_ (rv_args_next _))))
  unfold Builtin.«reversed.__next__»
  refine wpAny_bind (wpAny_of_eq (a := (Value.ref it, [])) rfl ?_)
  try dsimp only
  refine wpAny_bind (wpAny_field ho hd (x := .ref l) rfl ?_)
  refine wpAny_bind (wpAny_field ho hd (x := rawInt (i : Int)) rfl ?_)
  show wpAny _ _ (if (i : Int) < 0 then _ else _) _ _ s
  rw [if_neg (by omega)]
  show wpAny _ _ (specialOf (.ref l) "__getitem__" >>= _) _ _ s
  refine wpAny_bind (wpAny_specialOf hl.typeIs slot_tuple_getitem.lookup ?_)
  show wpAny _ _ (if (some (Value.builtin "tuple.__getitem__")).isNone = true then _ else _) _ _ s
  rw [if_neg (by exact Bool.false_ne_true)]
  refine wpAny_bind (wpAny_mkInt ?_)
  refine wpAny_bind (wpAny_attempt (getItem_tuple (j := i) (x := x) hl (by omega) hi ?_ hx ?_))
  · unfold seqIndex?
    have h1 : i < items.size := (Array.getElem?_eq_some_iff.mp hx).1
    simp only [if_neg (show ¬ (i : Int) < 0 by omega)]
    rw [if_pos (by rw [Bool.and_eq_true]; exact ⟨decide_eq_true (by omega), decide_eq_true (by omega)⟩)]
    simp
  dsimp only
  refine wpAny_bind (wpAny_field ho hd (x := rawInt (i : Int)) rfl ?_)
  refine wpAny_bind (wpAny_setField ho hd (by simp) ?_)
  refine wpAny_pure ⟨x, rfl, wpAny_pure (hQ _ ?_ (Heap.SameBut.update ..))⟩
  exact ⟨_, Heap.get?_update_self _ ho (Obj.isFreed_of_fields (Obj.data_mapFields hd _)), (Obj.cls_mapFields ..).trans hc, by
    rw [Obj.data_mapFields hd]; simp⟩
theorem rv_next_end {it l : Addr} {Q : Option Value → Shared → Prop} (hh : A.handled = none) (hit : IsRv s.heap it l (-1))
    (hQ : ∀ h', Heap.ExtBut it s.heap h' → Q none { s with heap := h' }) : wpAny (model prog w) A (pyNext (.ref it)) Q E s := by
  obtain ⟨o, ho, hc, hd⟩ := id hit
  unfold pyNext
  refine wpAny_bind (wpAny_attempt (wpAny_callSpecial?_slot (name := Str.ofString "__next__") hit.typeIs rv_slot_next
    (wpAny_call_entry rv_slot_next hit.typeIs rv_entry_next ?_ (rv_args_next _))))
  unfold Builtin.«reversed.__next__»
  refine wpAny_bind (wpAny_of_eq (a := (Value.ref it, [])) rfl ?_)
  try dsimp only
  refine wpAny_bind (wpAny_field ho hd (x := .ref l) rfl ?_)
  refine wpAny_bind (wpAny_field ho hd (x := rawInt (-1)) rfl ?_)
  show wpAny _ _ (if (-1 : Int) < 0 then _ else _) _ _ s
  rw [if_pos (by decide)]
  refine wpAny_bind (wpAny_rule ?_)
  refine wpAny_bind ?_
  show wpAny _ _ (setField (.ref it) 1 (rawInt (-1)) >>= fun _ => setField (.ref it) 0 .none) _ _ s
  refine wpAny_bind (wpAny_setField ho hd (by simp) ?_)
  have ho1 : (s.heap.update it (Obj.mapFields fun x => x.setIfInBounds 1 (rawInt (-1)))).get? it = some (Obj.mapFields (fun x => x.setIfInBounds 1 (rawInt (-1))) o) := Heap.get?_update_self _ ho (Obj.isFreed_of_fields (Obj.data_mapFields hd _))
  refine wpAny_setField ho1 (Obj.data_mapFields hd _) (by simp) ?_
  refine wpAny_bind ?_
  show wpAny _ _ (newExc (.type "StopIteration") [] >>= _) _ _ _
  refine wpAny_bind ?_
  simp only [newExc, newTuple]
  refine wpAny_bind (wpAny_newObj_type ?_ (by size_fits))
  refine wpAny_bind (m := firstArgMember _ _) (wpAny_of_eq (a := Value.none) (by first | rfl | (simp only [firstArgMember]; rfl)) ?_)
  refine wpAny_newObj_type ?_ (by size_fits)
  simp only [raiseNew]
  refine wpAny_bind (wpAny_handled ?_)
  first | rw [show A.in1.handled = none from hh] | rw [hh]
  refine wpAny_bind (wpAny_pure (wpAny_throw ?_))
  refine wpAny_bind (wpAny_isInstance (T := "StopIteration") (b := true) ⟨_, Heap.get?_push_size _ rfl, rfl⟩ isSubtype_stop ?_)
  exact wpAny_pure (hQ _ ((((Heap.SameBut.update ..).extBut.trans (Heap.SameBut.update ..).extBut).push _).push _))
theorem pyIter_rv {it l : Addr} {i : Int} {Q : Value → Shared → Prop} (hit : IsRv s.heap it l i) (h : Q (.ref it) s) : wpAny (model prog w) A (pyIter (.ref it)) Q E s := by
  refine wpAny_pyIter_slot hit.typeIs rv_slot_iter (wpAny_call_entry rv_slot_iter hit.typeIs rv_entry_iter ?_ (rv_args_iter _))
  show wpAny _ _ (ret (.ref it)) _ _ s
  exact wpAny_pure ⟨_, rfl, "reversed", _, hit.typeIs, rv_slot_next.lookup, h⟩
end
theorem rv_walks {prog : Program} {w : World} {A : Around} (hh : A.handled = none) (I l : Addr) (hne : l ≠ I) (items : Array Value) (hfit : (items.size : Int) < 2 ^ 63) :
    Walks prog w A I [I, l] [I] items.size (fun i v => items[items.size - 1 - i]? = some v) (fun i h => i ≤ items.size ∧ IsRv h I l ((items.size : Int) - 1 - (i : Int)) ∧ IsTup h l items) where
  sub := fun b hb => by simp at hb; simp [hb]
  frame := fun _ _ _ x hk => ⟨x.1, x.2.1.at fun o e => hk I (by simp) o e, (let ⟨o, ho, r⟩ := x.2.2; ⟨o, hk l (by simp) o ho, r⟩)⟩
  item := fun i s Q E hi x hQ => by
    have e : (items.size : Int) - 1 - (i : Int) = ((items.size - 1 - i : Nat) : Int) := by omega
    have hit := x.2.1
    rw [e] at hit
    have hx : items[items.size - 1 - i]? = some (items[items.size - 1 - i]'(by omega)) := Array.getElem?_eq_getElem (by omega)
    refine rv_next_item hit x.2.2 hx (by omega) fun h' hit' hs' => ?_
    have e2 : ((items.size - 1 - i : Nat) : Int) - 1 = (items.size : Int) - 1 - ((i + 1 : Nat) : Int) := by omega
    rw [e2] at hit'
    exact hQ _ h' (s.toks + 1) hx ⟨hi, hit', (let ⟨o, ho, r⟩ := x.2.2; ⟨o, (hs'.2 l hne).trans ho, r⟩)⟩ fun b o hb eo => hs'.extBut b o (fun h => hb (by simp [h])) eo
  done := fun s Q E x hQ => by
    have e : (items.size : Int) - 1 - (items.size : Int) = -1 := by omega
    have hit := x.2.1
    rw [e] at hit
    exact rv_next_end hh hit fun h' he' => hQ h' s.toks fun b o hb eo => he' b o (fun h => hb (by simp [h])) eo
  self := fun _ _ _ _ x hQ => pyIter_rv x.2.1 hQ
/- KF2 -/
example (w : World) (h : Heap) : (heapK w.params).In h → PySem.Challenge.rw_qz0034_01.name = PySem.Challenge.rw_qz0034_01.name := by k_fill; intro _; rfl
theorem bk_reversed (P : Params) : nsIn (heapK P) mainGlobals (Str.ofString "reversed") = some none := by k_is
theorem bb_reversed : bootBuiltins (Str.ofString "reversed") = some (.type "reversed") := by boot_by_name
theorem bn_reversed : Str.ofString "reversed" ≠ Str.ofString "__name__" := by decide
theorem bk_tuple (P : Params) : nsIn (heapK P) mainGlobals (Str.ofString "tuple") = some none := by k_is
theorem bb_tuple : bootBuiltins (Str.ofString "tuple") = some (.type "tuple") := by boot_by_name
theorem bn_tuple : Str.ofString "tuple" ≠ Str.ofString "__name__" := by decide
theorem bk_int (P : Params) : nsIn (heapK P) mainGlobals (Str.ofString "int") = some none := by k_is
theorem bb_int : bootBuiltins (Str.ofString "int") = some (.type "int") := by boot_by_name
theorem bn_int : Str.ofString "int" ≠ Str.ofString "__name__" := by decide
theorem bk_set (P : Params) : nsIn (heapK P) mainGlobals (Str.ofString "set") = some none := by k_is
theorem bb_set : bootBuiltins (Str.ofString "set") = some (.type "set") := by boot_by_name
theorem bn_set : Str.ofString "set" ≠ Str.ofString "__name__" := by decide
theorem bk_range (P : Params) : nsIn (heapK P) mainGlobals (Str.ofString "range") = some none := by k_is
theorem bb_range : bootBuiltins (Str.ofString "range") = some (.type "range") := by boot_by_name
theorem bn_range : Str.ofString "range" ≠ Str.ofString "__name__" := by decide
theorem bk_min (P : Params) : nsIn (heapK P) mainGlobals (Str.ofString "min") = some none := by k_is
theorem bb_min : bootBuiltins (Str.ofString "min") = some (.builtin "min") := by boot_by_name
theorem bn_min : Str.ofString "min" ≠ Str.ofString "__name__" := by decide
theorem bk_max (P : Params) : nsIn (heapK P) mainGlobals (Str.ofString "max") = some none := by k_is
theorem bb_max : bootBuiltins (Str.ofString "max") = some (.builtin "max") := by boot_by_name
theorem bn_max : Str.ofString "max" ≠ Str.ofString "__name__" := by decide
theorem bk_all (P : Params) : nsIn (heapK P) mainGlobals (Str.ofString "all") = some none := by k_is
theorem bb_all : bootBuiltins (Str.ofString "all") = some (.builtin "all") := by boot_by_name
theorem bn_all : Str.ofString "all" ≠ Str.ofString "__name__" := by decide
theorem bk_any (P : Params) : nsIn (heapK P) mainGlobals (Str.ofString "any") = some none := by k_is
theorem bb_any : bootBuiltins (Str.ofString "any") = some (.builtin "any") := by boot_by_name
theorem bn_any : Str.ofString "any" ≠ Str.ofString "__name__" := by decide
/- Loop -/
noncomputable def Turn (g : Heap) (L : Addr) (gs : Array GenState) (dr : Drawn) (os : OsState) (names : List Str) (J : List (Option Value) → Led → Prop) (I : Addr) (oI : Obj) (Q : Flow → Shared → Prop) (f : Flow) (s' : Shared) : Prop :=
  match f with
  | .ret v => Q (.ret v) s'
  | .brk => Q .next s'
  | _ => ∃ h' tk' vals' news', s' = ⟨h', gs, dr, tk', os⟩ ∧ Fr g L h' (lkv names vals') ∧ News g L h' ((I, oI) :: news') ∧ (∀ p ∈ news', p.1 ≠ I) ∧ J vals' news'
section
variable {w : World} {g : Heap} {L : Addr} {a : Addr} {cn : Str} {cs : Scope} {ccd : Value} {cl : List (Str × Addr)} {names : List Str} {A : Around} {E : Value → Shared → Prop} {gs : Array GenState} {dr : Drawn} {os : OsState} {l : Addr} {vals : List (Option Value)} {news : Led} {x : Str} {i : Nat} {hp : Heap} {tk : Nat} {Q : Flow → Shared → Prop} {body : List Stmt} {vs : List Value} {oL : Obj} {oI : Obj}
theorem loop_core {P : Nat → Value → Prop} {St : Nat → Heap → Prop} (W : Walks PRG w A hp.objs.size [hp.objs.size, l] [hp.objs.size] vs.length P St) (hP : ∀ k v, P k v → vs[k]? = some v) (hst : St 0 (hp.push oI)) (hfree : oI.isFreed = false) (hsome : ∀ k h, St k h → ∃ o, h.get? hp.objs.size = some o)
    (F : Fr g L hp (lkv names vals)) (N : News g L hp news) (hm : (l, oL) ∈ news) (hl : Lv cs names x i) (J : Nat → List (Option Value) → Led → Prop) (hj : J 0 vals news)
    (hJl : ∀ k vals' news', J k vals' news' → (l, oL) ∈ news') (hJn : ∀ k vals' news', J k vals' news' → names.length = vals'.length)
    (turn : ∀ k v vals₁ news₁ h₁ tk₁ I oI', vs[k]? = some v → J k vals₁ news₁ → (∀ p ∈ news₁, p.1 ≠ I) → Fr g L h₁ (lkv names (vals₁.set i (some v))) → News g L h₁ ((I, oI') :: news₁) →
      ∀ QT : Flow → Shared → Prop, (∀ f s', Turn g L gs dr os names (J (k + 1)) I oI' Q f s' → QT f s') → wpAny (model PRG w) A (execs body (envX cn cs L a ccd cl)) QT E ⟨h₁, gs, dr, tk₁, os⟩)
    (done : ∀ vals' news' h' tk', J vs.length vals' news' → Fr g L h' (lkv names vals') → News g L h' news' → Q .next ⟨h', gs, dr, tk', os⟩) :
    LoopAtV PRG w A g (envX cn cs L a ccd cl) x body Q E (.ref hp.objs.size) ⟨hp.push oI, gs, dr, tk, os⟩ := by
  have hlL : l ≠ L := (N _ hm).2.1
  have hgl : g.get? l = none := (N _ hm).2.2
  have hnl : l ≠ hp.objs.size := Nat.ne_of_lt (Heap.lt_size (N _ hm).1)
  have hI0 : g.get? hp.objs.size = none := next_is_new F
  refine ⟨hp.objs.size, [hp.objs.size, l], [hp.objs.size], vs.length, P, St, lkv names vals, news, fun k m' nx => ∃ vals', m' = lkv names vals' ∧ J k vals' nx, rfl, W, ?_, ?_, ?_, hst, F.push _, (fun p hp' => ⟨Heap.get?_push_of_some _ (N p hp').1, (N p hp').2⟩), ⟨vals, rfl, hj⟩, ?_, ?_⟩
  · intro hm'
    rcases List.mem_cons.mp hm' with e | hm'
    · exact absurd F.ns.lt (by show ¬ L < hp.objs.size; rw [← e]; exact Nat.lt_irrefl _)
    · exact hlL (List.mem_singleton.mp hm').symm
  · intro b hb
    rw [List.mem_singleton.mp hb]; exact hI0
  · intro p hp' hI
    exact absurd (Heap.lt_size (N p hp').1) (by rw [List.mem_singleton.mp hI]; exact Nat.lt_irrefl _)
  · rintro k v m₁ news₁ s₁ own ⟨hh', tk', rfl⟩ hk hPv ⟨vals₁, rfl, hJ⟩ hoff hown hget hall hst' F₁ N₁
    obtain ⟨oI', hoI⟩ := hsome _ _ hst'
    have hIown : (hp.objs.size, oI') ∈ own := hall _ (List.mem_cons_self) hI0 _ hoI
    have hoff' : ∀ p ∈ news₁, p.1 ≠ hp.objs.size := fun p hp' e => hoff p hp' (List.mem_singleton.mpr e)
    rw [lkv_set hl.nd (hJn _ _ _ hJ) hl.at_] at F₁
    refine wpAny_mono (turn k v vals₁ news₁ hh' tk' hp.objs.size oI' (hP k v hPv) hJ hoff' F₁ (fun p hp' => ?_) _ fun _ _ x => x) (fun f s₂ p => ?_) fun _ _ e => e
    · rcases List.mem_cons.mp hp' with e | hp'
      · rw [e]; exact N₁ _ (List.mem_append_left _ hIown)
      · exact N₁ _ (List.mem_append_right _ hp')
    · have fin : (∃ h' tk' vals' news', s₂ = ⟨h', gs, dr, tk', os⟩ ∧ Fr g L h' (lkv names vals') ∧ News g L h' ((hp.objs.size, oI') :: news') ∧ (∀ p ∈ news', p.1 ≠ hp.objs.size) ∧ J (k + 1) vals' news') →
          LoopStepU g L [hp.objs.size] own (fun m' nx => ∃ vals', m' = lkv names vals' ∧ J (k + 1) vals' nx) ⟨hh', gs, dr, tk', os⟩ .next s₂ := by
        rintro ⟨h', tk₂, vals', news', rfl, F₂, N₂, hne, hJ'⟩
        refine ⟨rfl, h', tk₂, _, news', rfl, F₂, ?_, ?_, ⟨vals', rfl, hJ'⟩⟩
        · intro p hp'
          rcases List.mem_append.mp hp' with hp' | hp'
          · have hpg := hget p hp'
            rcases List.mem_cons.mp (hown p hp') with e | e
            · have : p = (hp.objs.size, oI') := by
                have h2 : hh'.get? p.1 = some p.2 := hpg
                rw [e] at h2
                have h3 : p.2 = oI' := Option.some.inj (h2.symm.trans hoI)
                exact Prod.ext e h3
              rw [this]; exact N₂ _ (.head _)
            · have e' := List.mem_singleton.mp e
              have h1 := N₁ _ (List.mem_append_right own (hJl _ _ _ hJ))
              have h2 : hh'.get? p.1 = some p.2 := hpg
              rw [e'] at h2
              have h3 : p.2 = oL := Option.some.inj (h2.symm.trans h1.1)
              have h4 := N₂ _ (.tail _ (hJl _ _ _ hJ'))
              rw [show p = (l, oL) from Prod.ext e' h3]
              exact h4
          · exact N₂ _ (.tail _ hp')
        · intro p hp' hI
          exact hne p hp' (List.mem_singleton.mp hI)
      cases f with
      | ret v => exact .ret p
      | brk => exact .brk p
      | next => exact .next (fin p)
      | cont => exact .cont (fin p)
  · rintro h' tk' m' news' F' N' _ ⟨vals', rfl, hJ⟩
    exact done vals' news' h' tk' hJ F' N'
theorem p_list {nl : Nat} (hh : A.handled = none) (F : Fr g L hp (lkv names vals)) (N : News g L hp news) (hm : (l, listOf vs.toArray nl) ∈ news) (hl : Lv cs names x i) (J : Nat → List (Option Value) → Led → Prop) (hj : J 0 vals news)
    (hJl : ∀ k vals' news', J k vals' news' → (l, listOf vs.toArray nl) ∈ news') (hJn : ∀ k vals' news', J k vals' news' → names.length = vals'.length)
    (turn : ∀ k v vals₁ news₁ h₁ tk₁ I oI', vs[k]? = some v → J k vals₁ news₁ → (∀ p ∈ news₁, p.1 ≠ I) → Fr g L h₁ (lkv names (vals₁.set i (some v))) → News g L h₁ ((I, oI') :: news₁) →
      ∀ QT : Flow → Shared → Prop, (∀ f s', Turn g L gs dr os names (J (k + 1)) I oI' Q f s' → QT f s') → wpAny (model PRG w) A (execs body (envX cn cs L a ccd cl)) QT E ⟨h₁, gs, dr, tk₁, os⟩)
    (done : ∀ vals' news' h' tk', J vs.length vals' news' → Fr g L h' (lkv names vals') → News g L h' news' → Q .next ⟨h', gs, dr, tk', os⟩) :
    wpAny (model PRG w) A (pyIter (.ref l)) (fun it s₂ => LoopAtV PRG w A g (envX cn cs L a ccd cl) x body Q E it s₂) E ⟨hp, gs, dr, tk, os⟩ := by
  have hls : hp.IsList l vs.toArray := ⟨_, (N _ hm).1, rfl, nl, rfl⟩
  have hnl : l ≠ hp.objs.size := Nat.ne_of_lt (Heap.lt_size (N _ hm).1)
  refine wpAny_pyIter_list (s := ⟨hp, gs, dr, tk, os⟩) hls ?_
  have W := Walks.list (prog := PRG) (w := w) hh hp.objs.size l hnl vs.toArray
  rw [List.size_toArray] at W
  exact loop_core W (fun k v h => by simpa using h) ⟨⟨_, Heap.get?_push_size _ rfl, rfl, rfl⟩, hls.at fun o e => Heap.get?_push_of_some _ e⟩ rfl (fun k h hs => ⟨_, hs.1.choose_spec.1⟩) F N hm hl J hj hJl hJn turn done
theorem p_tup {nl : Nat} (hh : A.handled = none) (F : Fr g L hp (lkv names vals)) (N : News g L hp news) (hm : (l, tup vs nl) ∈ news) (hl : Lv cs names x i) (J : Nat → List (Option Value) → Led → Prop) (hj : J 0 vals news)
    (hJl : ∀ k vals' news', J k vals' news' → (l, tup vs nl) ∈ news') (hJn : ∀ k vals' news', J k vals' news' → names.length = vals'.length)
    (turn : ∀ k v vals₁ news₁ h₁ tk₁ I oI', vs[k]? = some v → J k vals₁ news₁ → (∀ p ∈ news₁, p.1 ≠ I) → Fr g L h₁ (lkv names (vals₁.set i (some v))) → News g L h₁ ((I, oI') :: news₁) →
      ∀ QT : Flow → Shared → Prop, (∀ f s', Turn g L gs dr os names (J (k + 1)) I oI' Q f s' → QT f s') → wpAny (model PRG w) A (execs body (envX cn cs L a ccd cl)) QT E ⟨h₁, gs, dr, tk₁, os⟩)
    (done : ∀ vals' news' h' tk', J vs.length vals' news' → Fr g L h' (lkv names vals') → News g L h' news' → Q .next ⟨h', gs, dr, tk', os⟩) :
    wpAny (model PRG w) A (pyIter (.ref l)) (fun it s₂ => LoopAtV PRG w A g (envX cn cs L a ccd cl) x body Q E it s₂) E ⟨hp, gs, dr, tk, os⟩ := by
  have hls : hp.IsTuple l vs.toArray := ⟨_, (N _ hm).1, rfl, nl, rfl⟩
  have hnl : l ≠ hp.objs.size := Nat.ne_of_lt (Heap.lt_size (N _ hm).1)
  refine wpAny_pyIter_tuple (s := ⟨hp, gs, dr, tk, os⟩) hls ?_
  have W := Walks.tuple (prog := PRG) (w := w) hh hp.objs.size l hnl vs.toArray
  rw [List.size_toArray] at W
  exact loop_core W (fun k v h => by simpa using h) ⟨⟨_, Heap.get?_push_size _ rfl, rfl, rfl⟩, hls.at fun o e => Heap.get?_push_of_some _ e⟩ rfl (fun k h hs => ⟨_, hs.1.choose_spec.1⟩) F N hm hl J hj hJl hJn turn done
theorem x_for {xp pos : Pos} {iter : PySem.Expr} {rest : List Stmt} {m : Str → Option Value} (F : autoParam (Fr g L hp m) kA) (hl : autoParam (okL cs x = true) kK) (hE : autoParam (PassesOwn (model PRG w) A (envX cn cs L a ccd cl) E) kP) (hs : ∀ v, foldedSetIterable iter (envX cn cs L a ccd cl) v = pure v)
    (h : wpAny (model PRG w) A (eval iter (envX cn cs L a ccd cl)) (fun xv s₁ => wpAny (model PRG w) A (pyIter xv) (fun it s₂ => LoopAtV PRG w A g (envX cn cs L a ccd cl) x body (thn (model PRG w) A E (envX cn cs L a ccd cl) rest Q) E it s₂) E s₁) E ⟨hp, gs, dr, tk, os⟩) :
    wpAny (model PRG w) A (execs (.For (.Name x xp) iter body [] pos :: rest) (envX cn cs L a ccd cl)) Q E ⟨hp, gs, dr, tk, os⟩ := by
  obtain ⟨a1, a2, _⟩ := okL_is hl
  refine wpAny_execs_cons (wpAny_mono (For_invVF (s := ⟨hp, gs, dr, tk, os⟩) F a2 (by show (cs.kind == .class || (cs.kind == .module && L != mainGlobals)) = false; rw [a1]; rfl) h hs hE) (fun f s' h => by cases f <;> exact h) fun _ _ x => x)
end
theorem ints_at : ∀ {vs : List Value} {as : List Int}, IntsAre vs as → ∀ {k : Nat} {v : Value}, vs[k]? = some v → ∃ x t, x ∈ as ∧ v = .int x t := by
  intro vs as h
  induction h with
  | nil => intro k v hv; simp at hv
  | @cons n t vs ns h ih =>
    intro k v hv
    cases k with
    | zero => simp at hv; exact ⟨n, t, by simp, hv.symm⟩
    | succ k =>
      simp at hv
      obtain ⟨x, u, hx, e⟩ := ih hv
      exact ⟨x, u, List.mem_cons_of_mem _ hx, e⟩
/- Loop2 -/
section
variable {w : World} {g : Heap} {L : Addr} {a : Addr} {cn : Str} {cs : Scope} {ccd : Value} {cl : List (Str × Addr)} {names : List Str} {A : Around} {E : Value → Shared → Prop} {gs : Array GenState} {dr : Drawn} {os : OsState} {l : Addr} {I : Addr} {vals : List (Option Value)} {news : Led} {x : Str} {i : Nat} {hp : Heap} {tk : Nat} {Q : Flow → Shared → Prop} {body : List Stmt} {vs : List Value} {oL : Obj} {oI : Obj}
theorem loop_at {n : Nat} {P : Nat → Value → Prop} {St : Nat → Heap → Prop} (W : Walks PRG w A I [I, l] [I] n P St) (hst : St 0 hp) (hsome : ∀ k h, St k h → ∃ o, h.get? I = some o)
    (F : Fr g L hp (lkv names vals)) (N : News g L hp ((I, oI) :: news)) (hoff : ∀ p ∈ news, p.1 ≠ I) (hm : (l, oL) ∈ news) (hl : Lv cs names x i) (J : Nat → List (Option Value) → Led → Prop) (hj : J 0 vals news)
    (hJl : ∀ k vals' news', J k vals' news' → (l, oL) ∈ news') (hJn : ∀ k vals' news', J k vals' news' → names.length = vals'.length)
    (turn : ∀ k v vals₁ news₁ h₁ tk₁ I oI', k < n → P k v → J k vals₁ news₁ → (∀ p ∈ news₁, p.1 ≠ I) → Fr g L h₁ (lkv names (vals₁.set i (some v))) → News g L h₁ ((I, oI') :: news₁) →
      ∀ QT : Flow → Shared → Prop, (∀ f s', Turn g L gs dr os names (J (k + 1)) I oI' Q f s' → QT f s') → wpAny (model PRG w) A (execs body (envX cn cs L a ccd cl)) QT E ⟨h₁, gs, dr, tk₁, os⟩)
    (done : ∀ vals' news' h' tk', J n vals' news' → Fr g L h' (lkv names vals') → News g L h' news' → Q .next ⟨h', gs, dr, tk', os⟩) :
    LoopAtV PRG w A g (envX cn cs L a ccd cl) x body Q E (.ref I) ⟨hp, gs, dr, tk, os⟩ := by
  have hlL : l ≠ L := (N _ (.tail _ hm)).2.1
  have hgl : g.get? l = none := (N _ (.tail _ hm)).2.2
  have hnl : l ≠ I := hoff _ hm
  have hI0 : g.get? I = none := (N _ (.head _)).2.2
  have hIL : I ≠ L := (N _ (.head _)).2.1
  refine ⟨I, [I, l], [I], n, P, St, lkv names vals, news, fun k m' nx => ∃ vals', m' = lkv names vals' ∧ J k vals' nx, rfl, W, ?_, ?_, ?_, hst, F, (fun p hp' => N p (.tail _ hp')), ⟨vals, rfl, hj⟩, ?_, ?_⟩
  · intro hm'
    rcases List.mem_cons.mp hm' with e | hm'
    · exact hIL e.symm
    · exact hlL (List.mem_singleton.mp hm').symm
  · intro b hb
    rw [List.mem_singleton.mp hb]; exact hI0
  · intro p hp' hI
    exact hoff p hp' (List.mem_singleton.mp hI)
  · rintro k v m₁ news₁ s₁ own ⟨hh', tk', rfl⟩ hk hPv ⟨vals₁, rfl, hJ⟩ hoff hown hget hall hst' F₁ N₁
    obtain ⟨oI', hoI⟩ := hsome _ _ hst'
    have hIown : (I, oI') ∈ own := hall _ (List.mem_cons_self) hI0 _ hoI
    have hoff' : ∀ p ∈ news₁, p.1 ≠ I := fun p hp' e => hoff p hp' (List.mem_singleton.mpr e)
    rw [lkv_set hl.nd (hJn _ _ _ hJ) hl.at_] at F₁
    refine wpAny_mono (turn k v vals₁ news₁ hh' tk' I oI' hk hPv hJ hoff' F₁ (fun p hp' => ?_) _ fun _ _ x => x) (fun f s₂ p => ?_) fun _ _ e => e
    · rcases List.mem_cons.mp hp' with e | hp'
      · rw [e]; exact N₁ _ (List.mem_append_left _ hIown)
      · exact N₁ _ (List.mem_append_right _ hp')
    · have fin : (∃ h' tk' vals' news', s₂ = ⟨h', gs, dr, tk', os⟩ ∧ Fr g L h' (lkv names vals') ∧ News g L h' ((I, oI') :: news') ∧ (∀ p ∈ news', p.1 ≠ I) ∧ J (k + 1) vals' news') →
          LoopStepU g L [I] own (fun m' nx => ∃ vals', m' = lkv names vals' ∧ J (k + 1) vals' nx) ⟨hh', gs, dr, tk', os⟩ .next s₂ := by
        rintro ⟨h', tk₂, vals', news', rfl, F₂, N₂, hne, hJ'⟩
        refine ⟨rfl, h', tk₂, _, news', rfl, F₂, ?_, ?_, ⟨vals', rfl, hJ'⟩⟩
        · intro p hp'
          rcases List.mem_append.mp hp' with hp' | hp'
          · have hpg := hget p hp'
            rcases List.mem_cons.mp (hown p hp') with e | e
            · have : p = (I, oI') := by
                have h2 : hh'.get? p.1 = some p.2 := hpg
                rw [e] at h2
                have h3 : p.2 = oI' := Option.some.inj (h2.symm.trans hoI)
                exact Prod.ext e h3
              rw [this]; exact N₂ _ (.head _)
            · have e' := List.mem_singleton.mp e
              have h1 := N₁ _ (List.mem_append_right own (hJl _ _ _ hJ))
              have h2 : hh'.get? p.1 = some p.2 := hpg
              rw [e'] at h2
              have h3 : p.2 = oL := Option.some.inj (h2.symm.trans h1.1)
              have h4 := N₂ _ (.tail _ (hJl _ _ _ hJ'))
              rw [show p = (l, oL) from Prod.ext e' h3]
              exact h4
          · exact N₂ _ (.tail _ hp')
        · intro p hp' hI
          exact hne p hp' (List.mem_singleton.mp hI)
      cases f with
      | ret v => exact .ret p
      | brk => exact .brk p
      | next => exact .next (fin p)
      | cont => exact .cont (fin p)
  · rintro h' tk' m' news' F' N' _ ⟨vals', rfl, hJ⟩
    exact done vals' news' h' tk' hJ F' N'
theorem p_rev {nl : Nat} (hh : A.handled = none) (F : Fr g L hp (lkv names vals)) (N : News g L hp ((I, rvObj l ((vs.length : Int) - 1)) :: news)) (hoff : ∀ p ∈ news, p.1 ≠ I) (hm : (l, tup vs nl) ∈ news) (hfit : vs.length ≤ 100000) (hl : Lv cs names x i) (J : Nat → List (Option Value) → Led → Prop) (hj : J 0 vals news)
    (hJl : ∀ k vals' news', J k vals' news' → (l, tup vs nl) ∈ news') (hJn : ∀ k vals' news', J k vals' news' → names.length = vals'.length)
    (turn : ∀ k v vals₁ news₁ h₁ tk₁ I oI', vs.reverse[k]? = some v → J k vals₁ news₁ → (∀ p ∈ news₁, p.1 ≠ I) → Fr g L h₁ (lkv names (vals₁.set i (some v))) → News g L h₁ ((I, oI') :: news₁) →
      ∀ QT : Flow → Shared → Prop, (∀ f s', Turn g L gs dr os names (J (k + 1)) I oI' Q f s' → QT f s') → wpAny (model PRG w) A (execs body (envX cn cs L a ccd cl)) QT E ⟨h₁, gs, dr, tk₁, os⟩)
    (done : ∀ vals' news' h' tk', J vs.length vals' news' → Fr g L h' (lkv names vals') → News g L h' news' → Q .next ⟨h', gs, dr, tk', os⟩) :
    wpAny (model PRG w) A (pyIter (.ref I)) (fun it s₂ => LoopAtV PRG w A g (envX cn cs L a ccd cl) x body Q E it s₂) E ⟨hp, gs, dr, tk, os⟩ := by
  have hls : IsTup hp l vs.toArray := ⟨_, (N _ (.tail _ hm)).1, rfl, nl, rfl⟩
  have hit : IsRv hp I l ((vs.length : Int) - 1) := ⟨_, (N _ (.head _)).1, rfl, rfl⟩
  refine pyIter_rv (s := ⟨hp, gs, dr, tk, os⟩) hit ?_
  have W := rv_walks (prog := PRG) (w := w) hh I l (hoff _ hm) vs.toArray (by rw [List.size_toArray]; omega)
  rw [List.size_toArray] at W
  refine loop_at W ⟨Nat.zero_le _, ?_, hls⟩ (fun k h hs => ⟨_, hs.2.1.choose_spec.1⟩) F N hoff hm hl J hj hJl hJn (fun k v vals₁ news₁ h₁ tk₁ I oI' hk hP => turn k v vals₁ news₁ h₁ tk₁ I oI' ?_) done
  · simpa using hit
  · rw [List.getElem?_reverse hk]; simpa using hP
theorem p_seq {nl : Nat} {oS : Obj} (hh : A.handled = none) (F : Fr g L hp (lkv names vals)) (N : News g L hp news) (hm : (l, oS) ∈ news) (ho : oS = listOf vs.toArray nl ∨ oS = tup vs nl) (hl : Lv cs names x i) (J : Nat → List (Option Value) → Led → Prop) (hj : J 0 vals news)
    (hJl : ∀ k vals' news', J k vals' news' → (l, oS) ∈ news') (hJn : ∀ k vals' news', J k vals' news' → names.length = vals'.length)
    (turn : ∀ k v vals₁ news₁ h₁ tk₁ I oI', vs[k]? = some v → J k vals₁ news₁ → (∀ p ∈ news₁, p.1 ≠ I) → Fr g L h₁ (lkv names (vals₁.set i (some v))) → News g L h₁ ((I, oI') :: news₁) →
      ∀ QT : Flow → Shared → Prop, (∀ f s', Turn g L gs dr os names (J (k + 1)) I oI' Q f s' → QT f s') → wpAny (model PRG w) A (execs body (envX cn cs L a ccd cl)) QT E ⟨h₁, gs, dr, tk₁, os⟩)
    (done : ∀ vals' news' h' tk', J vs.length vals' news' → Fr g L h' (lkv names vals') → News g L h' news' → Q .next ⟨h', gs, dr, tk', os⟩) :
    wpAny (model PRG w) A (pyIter (.ref l)) (fun it s₂ => LoopAtV PRG w A g (envX cn cs L a ccd cl) x body Q E it s₂) E ⟨hp, gs, dr, tk, os⟩ := by
  rcases ho with rfl | rfl
  · exact p_list hh F N hm hl J hj hJl hJn turn done
  · exact p_tup hh F N hm hl J hj hJl hJn turn done
end
/- Wf -/
noncomputable def TermPost (w : World) (a : BA) (b : BS) (rest : Led) (v : Value) (news' : Led) : Prop :=
  ∃ (n : Nat) (t : Tok) (b' : BS) (tl : Led), v = .int n t ∧ news' = BL a b' ++ (tl ++ rest) ∧ Bank w (tl ++ rest) b' ∧ Wf b'.T ∧ b.T.length ≤ b'.T.length ∧ b'.T.length ≤ b.T.length + 1 ∧ Tn b'.T n ∧ Fresh tl (BL a b ++ rest)
section
variable {w : World} {g : Heap} {L : Addr} {A : Around} {E : Value → Shared → Prop} {gs : Array GenState} {dr : Drawn} {os : OsState} {l : Addr} {news : Led} {led : Led} {b : BS} {n : Nat} {nl : Nat} {k : Key} {u : Tok} {value : PySem.Expr} {slice : PySem.Expr} {hp : Heap} {tk : Nat} {Q : Value → Shared → Prop}
theorem c_item {its : List Value} {x : Value} (N : News g L hp news) (hm : (l, listOf its.toArray nl) ∈ news) (hx : its[n]? = some x) (hn : n < 100000) (h : Q x ⟨hp, gs, dr, tk, os⟩)
    (hs : subscripted slice false (.ref l) (.int (n : Nat) u) = operate [.ref l, .int (n : Nat) u] (getItem (.ref l) (.int (n : Nat) u))) : wpAny (model PRG w) A (subscriptTail value slice (.ref l) (.int (n : Nat) u)) Q E ⟨hp, gs, dr, tk, os⟩ :=
  item_N (s := ⟨hp, gs, dr, tk, os⟩) N hm (by omega) (by omega) (by simpa using hx) h hs
theorem c_op (N : autoParam (News g L hp news) kA) (H : autoParam (Bank w led b) kA) (ht : autoParam (b.T[n]? = some k) kA) (hm : autoParam ((l, listOf b.ops.toArray nl) ∈ news) kM) (hn : autoParam (n < 100000) kO) (h : ∀ t, Q (.str k.1 t) ⟨hp, gs, dr, tk, os⟩)
    (hs : autoParam (subscripted slice false (.ref l) (.int (n : Nat) u) = operate [.ref l, .int (n : Nat) u] (getItem (.ref l) (.int (n : Nat) u))) kW) : wpAny (model PRG w) A (subscriptTail value slice (.ref l) (.int (n : Nat) u)) Q E ⟨hp, gs, dr, tk, os⟩ := by
  obtain ⟨v, hv, t, rfl⟩ := H.ops.get ht
  exact c_item N hm hv hn (h t) hs
theorem c_sort (N : autoParam (News g L hp news) kA) (H : autoParam (Bank w led b) kA) (ht : autoParam (b.T[n]? = some k) kA) (hm : autoParam ((l, listOf b.sorts.toArray nl) ∈ news) kM) (hn : autoParam (n < 100000) kO) (h : ∀ t, Q (.int 0 t) ⟨hp, gs, dr, tk, os⟩)
    (hs : autoParam (subscripted slice false (.ref l) (.int (n : Nat) u) = operate [.ref l, .int (n : Nat) u] (getItem (.ref l) (.int (n : Nat) u))) kW) : wpAny (model PRG w) A (subscriptTail value slice (.ref l) (.int (n : Nat) u)) Q E ⟨hp, gs, dr, tk, os⟩ := by
  obtain ⟨v, hv, t, rfl⟩ := H.sorts.get ht
  exact c_item N hm hv hn (h t) hs
theorem c_data (N : autoParam (News g L hp news) kA) (H : autoParam (Bank w led b) kA) (ht : autoParam (b.T[n]? = some k) kA) (hm : autoParam ((l, listOf b.datas.toArray nl) ∈ news) kM) (hn : autoParam (n < 100000) kO) (h : ∀ t, Q (.int k.2.2 t) ⟨hp, gs, dr, tk, os⟩)
    (hs : autoParam (subscripted slice false (.ref l) (.int (n : Nat) u) = operate [.ref l, .int (n : Nat) u] (getItem (.ref l) (.int (n : Nat) u))) kW) : wpAny (model PRG w) A (subscriptTail value slice (.ref l) (.int (n : Nat) u)) Q E ⟨hp, gs, dr, tk, os⟩ := by
  obtain ⟨v, hv, t, rfl⟩ := H.datas.get ht
  exact c_item N hm hv hn (h t) hs
theorem c_args (N : autoParam (News g L hp news) kA) (H : autoParam (Bank w led b) kA) (ht : autoParam (b.T[n]? = some k) kA) (hm : autoParam ((l, listOf b.args.toArray nl) ∈ news) kM) (hn : autoParam (n < 100000) kO) (h : ∀ c, IntTup led k.2.1 c → Q (.ref c) ⟨hp, gs, dr, tk, os⟩)
    (hs : autoParam (subscripted slice false (.ref l) (.int (n : Nat) u) = operate [.ref l, .int (n : Nat) u] (getItem (.ref l) (.int (n : Nat) u))) kW) : wpAny (model PRG w) A (subscriptTail value slice (.ref l) (.int (n : Nat) u)) Q E ⟨hp, gs, dr, tk, os⟩ := by
  obtain ⟨v, hv, c, rfl, hc⟩ := H.args.get ht
  exact c_item N hm hv hn (h c hc) hs
theorem c_itemL {vs : List Value} {i : Int} {x : Value} (N : autoParam (News g L hp news) kA) (hm : autoParam ((l, listOf vs.toArray nl) ∈ news) kM) (hi : autoParam (decide (0 ≤ i ∧ i < 100000) = true) kR) (hx : autoParam (vs[i.toNat]? = some x) kR) (h : Q x ⟨hp, gs, dr, tk, os⟩)
    (hs : autoParam (subscripted slice false (.ref l) (.int i u) = operate [.ref l, .int i u] (getItem (.ref l) (.int i u))) kW) : wpAny (model PRG w) A (subscriptTail value slice (.ref l) (.int i u)) Q E ⟨hp, gs, dr, tk, os⟩ :=
  have hi := of_decide_eq_true hi
  item_N (s := ⟨hp, gs, dr, tk, os⟩) N hm hi.1 (by omega) hx h hs
theorem c_itemT {vs : List Value} {i : Int} {x : Value} (N : autoParam (News g L hp news) kA) (hm : autoParam ((l, tup vs nl) ∈ news) kM) (hi : autoParam (decide (0 ≤ i ∧ i < 100000) = true) kR) (hx : autoParam (vs[i.toNat]? = some x) kR) (h : Q x ⟨hp, gs, dr, tk, os⟩)
    (hs : autoParam (subscripted slice false (.ref l) (.int i u) = operate [.ref l, .int i u] (getItem (.ref l) (.int i u))) kW) : wpAny (model PRG w) A (subscriptTail value slice (.ref l) (.int i u)) Q E ⟨hp, gs, dr, tk, os⟩ := by
  have hi := of_decide_eq_true hi
  have hlt : i.toNat < vs.length := (List.getElem?_eq_some_iff.mp hx).1
  have h0 : (decide (0 ≤ i) && decide (i < (vs.length : Int))) = true := by
    rw [Bool.and_eq_true]; exact ⟨decide_eq_true hi.1, decide_eq_true (by omega)⟩
  have hj : seqIndex? i vs.length = some i.toNat := by
    unfold seqIndex?
    simp only [if_neg (show ¬ i < 0 by omega), h0, if_true]
  exact item_tupleT (s := ⟨hp, gs, dr, tk, os⟩) (l := vs) ⟨_, N.get hm, rfl, _, rfl⟩ (by omega) (by omega) (j := i.toNat) hj hx h hs
/-- the first of a tuple of ints -/
theorem c_tup0 {c : Addr} {x : Int} {r : List Int} (N : autoParam (News g L hp news) kA) (hc : autoParam (IntTup led (x :: r) c) kA) (hs' : autoParam (∀ p ∈ led, p ∈ news) kS) (h : ∀ t, Q (.int x t) ⟨hp, gs, dr, tk, os⟩)
    (hs : autoParam (subscripted slice false (.ref c) (.int 0 u) = operate [.ref c, .int 0 u] (getItem (.ref c) (.int 0 u))) kW) : wpAny (model PRG w) A (subscriptTail value slice (.ref c) (.int 0 u)) Q E ⟨hp, gs, dr, tk, os⟩ := by
  obtain ⟨vs, n, hm, hi⟩ := hc
  cases hi with
  | cons _ t hi =>
    exact item_tupleT (s := ⟨hp, gs, dr, tk, os⟩) (l := Value.int x t :: _) ⟨_, N.get (hs' _ hm), rfl, _, rfl⟩ (by decide) (by decide) (j := 0) (by simp [seqIndex?]) (by simp) (h t) hs
end
/- R2 -/
/-- numbers as ints -/
noncomputable def ni (l : List Nat) : List Int := l.map (fun n : Nat => (n : Int))
section
variable {M : Model} {g : Heap} {L : Addr} {A : Around} {E : Value → Shared → Prop} {env : Env} {gs : Array GenState} {dr : Drawn} {os : OsState} {m : Str → Option Value} {news : Led} {hp : Heap} {tk : Nat}
theorem e_bool {c : Bool} {k : Nat} {pos : Pos} {s : Shared} {Q : Value → Shared → Prop} (h : Q (.bool c) s) : wpAny M A (eval (.Constant (.bool c) k pos) env) Q E s := PyProof.Rows.Constant_bool h
/- two names at once -/
theorem x_asgTs {ts : List PySem.Expr} {k : Nat} {tp pos : Pos} {value : PySem.Expr} {x y : Str} {rest : List Stmt} {s : Shared} {Q : Flow → Shared → Prop}
    (hs : autoParam (swapsWithSole [.Tuple ts k tp] value pos.line env = pure false) kR) (hw : autoParam (swappedStores [.Tuple ts k tp] value env = pure (some [x, y])) kR)
    (h : wpAny M A (eval value env) (fun v s₁ => wpAny M A (unpackItems v 2 none) (fun items s₂ => ∃ u v, items = [u, v] ∧ wpAny M A (assignInOrder [bindName env y, bindName env x] [v, u]) (fun _ s₃ => wpAny M A (execs rest env) Q E s₃) E s₂) E s₁) E s) :
    wpAny M A (execs (.Assign [.Tuple ts k tp] value pos :: rest) env) Q E s := by
  refine wpAny_execs_cons (Assign_Tuple_swapped (names := [x, y]) (Q := fun f s' => match f with | .next => wpAny M A (execs rest env) Q E s' | f => Q f s') ?_ hs hw)
  refine wpAny_mono h (fun v s₁ h₁ => wpAny_mono h₁ (fun items s₂ h₂ => ?_) fun _ _ x => x) fun _ _ x => x
  obtain ⟨u, v, rfl, h₂⟩ := h₂
  exact h₂
theorem x_asgTn {ts : List PySem.Expr} {k : Nat} {tp pos : Pos} {value : PySem.Expr} {rest : List Stmt} {s : Shared} {Q : Flow → Shared → Prop}
    (hs : autoParam (swapsWithSole [.Tuple ts k tp] value pos.line env = pure false) kR) (hw : autoParam (swappedStores [.Tuple ts k tp] value env = pure none) kR)
    (h : wpAny M A (eval value env) (fun v s₁ => wpAny M A (assign (.Tuple ts k tp) env v) (fun _ s₃ => wpAny M A (execs rest env) Q E s₃) E s₁) E s) :
    wpAny M A (execs (.Assign [.Tuple ts k tp] value pos :: rest) env) Q E s :=
  wpAny_execs_cons (Assign_Tuple h hs hw)
theorem a_more {t : Value → Sem Unit} {ts : List (Value → Sem Unit)} {x : Value} {xs : List Value} {s : Shared} {Q : Unit → Shared → Prop} (h : wpAny M A (t x) (fun _ s₁ => wpAny M A (assignInOrder ts xs) Q E s₁) E s) : wpAny M A (assignInOrder (t :: ts) (x :: xs)) Q E s :=
  wpAny_bind (wpAny_holding h)
theorem a_none {xs : List Value} {s : Shared} {Q : Unit → Shared → Prop} (h : Q () s) : wpAny M A (assignInOrder [] xs) Q E s := by cases xs <;> exact fun _ _ _ => h
theorem b_name {x : Str} {v : Value} {s : Shared} {Q : Unit → Shared → Prop} (h : wpAny M A (storeName env x v) Q E s) : wpAny M A (bindName env x v) Q E s := bindName_ h
theorem as_name {x : Str} {pos : Pos} {v : Value} {s : Shared} {Q : Unit → Shared → Prop} (h : wpAny M A (storeName env x v) Q E s) : wpAny M A (assign (.Name x pos) env v) Q E s := assign_Name h
end
section
variable {prog : Program} {w : World} {g : Heap} {L : Addr} {a : Addr} {cn : Str} {cs : Scope} {ccd : Value} {cl : List (Str × Addr)} {A : Around} {E : Value → Shared → Prop} {env : Env} {gs : Array GenState} {dr : Drawn} {os : OsState} {l : Addr} {m : Str → Option Value} {news : Led} {hp : Heap} {tk : Nat}
theorem u_tup {its : List Value} {n k : Nat} {Q : List Value → Shared → Prop} (hh : autoParam (A.handled = none) kR) (F : autoParam (Fr g L hp m) kA) (N : autoParam (News g L hp news) kA) (hm : autoParam ((l, tup its k) ∈ news) kM) (hn : autoParam (n = its.length) kR)
    (h : ∀ h', Fr g L h' m → News g L h' news → Q its ⟨h', gs, dr, tk, os⟩) : wpAny (model prog w) A (unpackItems (.ref l) n none) Q E ⟨hp, gs, dr, tk, os⟩ := by
  have ht : IsTup hp l its.toArray := ⟨_, N.get hm, rfl, k, rfl⟩
  have := unpackItems_tuple (prog := prog) (w := w) (A := A) (E := E) (s := ⟨hp, gs, dr, tk, os⟩) (Q := Q) hh ht fun h' he => by
    refine h h' (F.extBut he (Nat.le_refl _)) fun p hp' => ?_
    have := N p hp'
    exact ⟨he _ _ (Nat.ne_of_lt (Heap.lt_size this.1)) this.1, this.2⟩
  rw [List.size_toArray, ← hn] at this
  exact this
theorem as_tup {ts : List PySem.Expr} {its : List Value} {k kt : Nat} {tp : Pos} {Q : Unit → Shared → Prop} (hh : autoParam (A.handled = none) kR) (F : autoParam (Fr g L hp m) kA) (N : autoParam (News g L hp news) kA) (hm : autoParam ((l, tup its k) ∈ news) kM) (hn : autoParam ((assignEach ts env).length = its.length) kR) (hstar : autoParam ((assignEach ts env).findIdx? (·.1) = none) kR)
    (h : ∀ h', Fr g L h' m → News g L h' news → wpAny (model prog w) A (assignInOrder ((assignEach ts env).map (·.2)) its) Q E ⟨h', gs, dr, tk, os⟩) : wpAny (model prog w) A (assign (.Tuple ts kt tp) env (.ref l)) Q E ⟨hp, gs, dr, tk, os⟩ := by
  have ht : IsTup hp l its.toArray := ⟨_, N.get hm, rfl, k, rfl⟩
  refine assign_Tuple_tuple (s := ⟨hp, gs, dr, tk, os⟩) hh ht (by rw [List.size_toArray]; exact hn) hstar fun h' he => ?_
  refine h h' (F.extBut he (Nat.le_refl _)) fun p hp' => ?_
  have := N p hp'
  exact ⟨he _ _ (Nat.ne_of_lt (Heap.lt_size this.1)) this.1, this.2⟩
/-- an empty dict -/
theorem n_dict {pos : Pos} {Q : Value → Shared → Prop} (F : autoParam (Fr g L hp m) kA) (N : autoParam (News g L hp news) kA) (hbig : autoParam (g.NoLimit) kN)
    (h : ∀ D h' o, Fr g L h' m → News g L h' ((D, o) :: news) → AllLt D news → (D == sysModules) = false → o.IsDictOf (PySem.intKind prog w) [] → Q (.ref D) ⟨h', gs, dr, tk, os⟩) : wpAny (model prog w) A (eval (.Dict [] [] pos) env) Q E ⟨hp, gs, dr, tk, os⟩ :=
  newDict_K (s := ⟨hp, gs, dr, tk, os⟩) F N hbig fun d h' o F' N' l1 lo _ _ hi _ => h d h' o F' N' (allLt_of l1) lo hi
/-- a method without arguments of a list that a name holds -/
theorem e_nmeth0 {names : List Str} {vals : List (Option Value)} {x : Str} {i : Nat} {meth : Str} {id : String} {xp ap pos : Pos} {s : Shared} {Q : Value → Shared → Prop} (F : Fr g L s.heap (lkv names vals)) (hl : Lv cs names x i) (hv : vals[i]? = some (some (.ref l)))
    (hp : (ap.endLine == pos.line) = true)
    (hg : ∀ (pl : Sem Bool) (R : Value × List Value → Shared → Prop), R (.builtin id, [.ref l]) s → wpAny (model PRG w) A (getMethod (.ref l) meth pl) R E s)
    (h : wpAny (model PRG w) A (call (.builtin id) [.ref l]) Q E s) :
    wpAny (model PRG w) A (eval (.Call (.Attribute (.Name x xp) meth ap) [] [] pos) (envX cn cs L a ccd cl)) Q E s :=
  MethodCall_ (pl := _) (e_var F hl hv (hg _ _ (callWith_method0 h))) (ev_mcall base_name rfl rfl hp)
theorem c_pop {p : List Value} {y : Value} {n : Nat} {news' : Led} {Q : Value → Shared → Prop} (F : autoParam (Fr g L hp m) kA) (N : autoParam (News g L hp news) kA) (U : autoParam (Upd l (listOf (p ++ [y]).toArray n) (listOf p.toArray (n + 1)) news news') kU) (hz : autoParam (p.length < 100000) kO)
    (h : ∀ h', Fr g L h' m → News g L h' news' → Q y ⟨h', gs, dr, tk, os⟩) : wpAny (model prog w) A (call (.builtin "list.pop") [.ref l]) Q E ⟨hp, gs, dr, tk, os⟩ := by
  refine kl_pop (s := ⟨hp, gs, dr, tk, os⟩) (its := (p ++ [y]).toArray) (p := p) (y := y) F N ?_ U ?_ h
  · have : ∀ q : List Value, kl_last (q ++ [y]) = some (q, y) := by
      intro q
      induction q with
      | nil => rfl
      | cons u r ih =>
        show (match kl_last (r ++ [y]) with | some (p, y) => some (u :: p, y) | none => some ([], u)) = _
        rw [ih]
    exact this p
  · show (p ++ [y]).length ≤ sizeLine
    rw [sizeLine_eq, List.length_append, List.length_singleton]; omega
/-- a call of a built-in type -/
theorem e_tcall {T : String} {x : Str} {fp pos : Pos} {args : List PySem.Expr} {mg mb : Str → Option Value} {mean : ExcName → Option Value} {s : Shared} {Q : Value → Shared → Prop} (F : autoParam (Fr g L s.heap m) kA) (X : autoParam ((heapK w.params).In g) kA) (T' : autoParam (Top viewK (looseW viewK [Str.ofString "MOST_BITS"]) mean mg mb g) kA)
    (hx : autoParam (okG cs x = true) kK) (hk : nsIn (heapK w.params) mainGlobals x = some none) (hb : bootBuiltins x = some (.type T)) (hne : x ≠ "__name__") (hn : autoParam (args.all nst = true) kR) (he : autoParam (args.isEmpty = false) kR)
    (h : wpArgs (model PRG w) A E (envX cn cs L a ccd cl) args (fun vs s₁ => wpAny (model PRG w) A (call (.type T) vs) Q E s₁) s) :
    wpAny (model PRG w) A (eval (.Call (.Name x fp) args [] pos) (envX cn cs L a ccd cl)) Q E s := by
  obtain ⟨a1, a2, a3⟩ := okG_is hx
  refine Call_ (nameX_B F X (topRead_of T') hk hb hne ?_ a1 a2 a3) (by with_unfolding_all rfl)
  cases args with
  | nil => cases he
  | cons e r =>
    refine PyProof.Rows.callWith_type1 (wpArgs_spliced hn ?_) ?_ ?_
    · exact h
    · simp only [List.all_cons, Bool.and_eq_true] at hn; exact star_nst hn.1
    · simp only [List.all_cons, Bool.and_eq_true] at hn; exact any_nst hn.2
theorem c_rv {vs : List Value} {n : Nat} {Q : Value → Shared → Prop} (F : autoParam (Fr g L hp m) kA) (N : autoParam (News g L hp news) kA) (hm : autoParam ((l, tup vs n) ∈ news) kM) (hz : autoParam (vs.length ≤ 100000) kO)
    (h : ∀ D h', Fr g L h' m → News g L h' ((D, rvObj l ((vs.length : Int) - 1)) :: news) → AllLt D news → Q (.ref D) ⟨h', gs, dr, tk + 2, os⟩) : wpAny (model prog w) A (call (.type "reversed") [.ref l]) Q E ⟨hp, gs, dr, tk, os⟩ := by
  have ht : IsTup hp l vs.toArray := ⟨_, N.get hm, rfl, n, rfl⟩
  refine call_rv (s := ⟨hp, gs, dr, tk, os⟩) ht (by rw [List.size_toArray]; omega) ?_
  have e : ((vs.toArray.size : Nat) : Int) - 1 = (vs.length : Int) - 1 := by simp
  rw [e]
  exact h _ _ (F.push _) (News.push F N _) (allLt_of fun p hp => Heap.lt_size (N p hp).1)
/- dicts of ints -/
theorem c_in {d : Addr} {o : Obj} {kvs : List (Int × Value)} {k : Int} {t : Tok} {Q : Value → Shared → Prop} (N : autoParam (News g L hp news) kA) (hm : autoParam ((d, o) ∈ news) kM) (hd : autoParam (o.IsDictOf (PySem.intKind prog w) kvs) kA) (lo : autoParam ((d == sysModules) = false) kA) (h : Q (.bool (valueAt kvs k).isSome) ⟨hp, gs, dr, tk + 1, os⟩) :
    wpAny (model prog w) A (compareOp .In (.int k t) (.ref d)) Q E ⟨hp, gs, dr, tk, os⟩ := kda_in (s := ⟨hp, gs, dr, tk, os⟩) N hm hd lo (intKind_is _ _ _ _) _ rfl h
theorem c_notin {d : Addr} {o : Obj} {kvs : List (Int × Value)} {k : Int} {t : Tok} {Q : Value → Shared → Prop} (N : autoParam (News g L hp news) kA) (hm : autoParam ((d, o) ∈ news) kM) (hd : autoParam (o.IsDictOf (PySem.intKind prog w) kvs) kA) (lo : autoParam ((d == sysModules) = false) kA) (h : Q (.bool (!(valueAt kvs k).isSome)) ⟨hp, gs, dr, tk + 1, os⟩) :
    wpAny (model prog w) A (compareOp .NotIn (.int k t) (.ref d)) Q E ⟨hp, gs, dr, tk, os⟩ := kdg_notin (s := ⟨hp, gs, dr, tk, os⟩) N hm hd lo (intKind_is _ _ _ _) _ rfl h
theorem c_dset {d : Addr} {o : Obj} {kvs : List (Int × Value)} {k : Int} {t : Tok} {v : Value} {G : Obj → Led} {Q : Unit → Shared → Prop} (F : autoParam (Fr g L hp m) kA) (N : autoParam (News g L hp news) kA) (U : autoParam (UpdF d o news G) kV) (hd : autoParam (o.IsDictOf (PySem.intKind prog w) kvs) kA) (hsz : kvs.length ≤ 100000)
    (h : ∀ h' o', Fr g L h' m → News g L h' (G o') → o'.IsDictOf (PySem.intKind prog w) (stored kvs k v) → Q () ⟨h', gs, dr, tk + 1, os⟩) : wpAny (model prog w) A (setItem (.ref d) (.int k t) v) Q E ⟨hp, gs, dr, tk, os⟩ :=
  kda_set (s := ⟨hp, gs, dr, tk, os⟩) F N U hd (intKind_is _ _ _ _) (by rw [sizeLine_eq]; omega) h
theorem c_ditem {d : Addr} {o : Obj} {kvs : List (Int × Value)} {k : Int} {t : Tok} {v : Value} {value slice : PySem.Expr} {Q : Value → Shared → Prop} (N : autoParam (News g L hp news) kA) (hm : autoParam ((d, o) ∈ news) kM) (hd : autoParam (o.IsDictOf (PySem.intKind prog w) kvs) kA) (hl : autoParam (valueAt kvs k = some v) kA) (h : Q v ⟨hp, gs, dr, tk + 1, os⟩)
    (hs : autoParam (subscripted slice false (.ref d) (.int k t) = operate [.ref d, .int k t] (getItem (.ref d) (.int k t))) kW) (hg : ∀ r, letTemporaryGo value (.ref d) r = pure ()) :
    wpAny (model prog w) A (subscriptTail value slice (.ref d) (.int k t)) Q E ⟨hp, gs, dr, tk, os⟩ := kda_item (s := ⟨hp, gs, dr, tk, os⟩) N hm hd (intKind_is _ _ _ _) hl h hs hg
end
noncomputable def WTurn (g : Heap) (L : Addr) (gs : Array GenState) (dr : Drawn) (os : OsState) (names : List Str) (J : Nat → List (Option Value) → Led → Prop) (n : Nat) (Q : Flow → Shared → Prop) (f : Flow) (s' : Shared) : Prop :=
  match f with
  | .ret v => Q (.ret v) s'
  | .brk => Q .next s'
  | _ => ∃ h' tk' vals' news' n', s' = ⟨h', gs, dr, tk', os⟩ ∧ Fr g L h' (lkv names vals') ∧ News g L h' news' ∧ n' < n ∧ J n' vals' news'
section
variable {w : World} {g : Heap} {L : Addr} {a : Addr} {cn : Str} {cs : Scope} {ccd : Value} {cl : List (Str × Addr)} {names : List Str} {A : Around} {E : Value → Shared → Prop} {gs : Array GenState} {dr : Drawn} {os : OsState} {vals : List (Option Value)} {news : Led} {hp : Heap} {tk : Nat} {Q : Flow → Shared → Prop}
theorem x_while {test : PySem.Expr} {body rest : List Stmt} {pos : Pos} (F : Fr g L hp (lkv names vals)) (N : News g L hp news) (hE : PassesOwn (model PRG w) A (envX cn cs L a ccd cl) E) (J : Nat → List (Option Value) → Led → Prop) {n₀ : Nat} (hj : J n₀ vals news)
    (turn : ∀ n vals₁ news₁ h₁ tk₁, Fr g L h₁ (lkv names vals₁) → News g L h₁ news₁ → J n vals₁ news₁ →
      ∀ QT : Flow → Shared → Prop, (∀ f s', WTurn g L gs dr os names J n (thn (model PRG w) A E (envX cn cs L a ccd cl) rest Q) f s' → QT f s') → wpAny (model PRG w) A (PySem.isTrue test (envX cn cs L a ccd cl) (eval test (envX cn cs L a ccd cl))) (fun b s₂ => if b = true then wpAny (model PRG w) A (execs body (envX cn cs L a ccd cl)) QT E s₂ else wpAny (model PRG w) A (execs rest (envX cn cs L a ccd cl)) Q E s₂) E ⟨h₁, gs, dr, tk₁, os⟩) :
    wpAny (model PRG w) A (execs (.While test body [] pos :: rest) (envX cn cs L a ccd cl)) Q E ⟨hp, gs, dr, tk, os⟩ := by
  refine wpAny_execs_cons (wpAny_mono (While_inv2 (s := ⟨hp, gs, dr, tk, os⟩) (Q := thn (model PRG w) A E (envX cn cs L a ccd cl) rest Q) (fun n m nx => ∃ vals', m = lkv names vals' ∧ J n vals' nx) F N ⟨vals, rfl, hj⟩ ?_ hE) (fun f s' h => by cases f <;> exact h) fun _ _ x => x)
  rintro n m₁ news₁ h₁ tk₁ F₁ N₁ ⟨vals₁, rfl, hJ⟩
  refine wpAny_mono (turn n vals₁ news₁ h₁ tk₁ F₁ N₁ hJ _ fun _ _ x => x) (fun b s₂ h₂ => ?_) fun _ _ x => x
  by_cases hb : b = true
  · rw [if_pos hb] at h₂ ⊢
    refine wpAny_mono h₂ (fun f s₃ h₃ => ?_) fun _ _ x => x
    cases f with
    | ret v => exact h₃
    | brk => exact h₃
    | next =>
      obtain ⟨h', tk', vals', news', n', rfl, F', N', hn, hJ'⟩ := h₃
      exact ⟨h', tk', _, news', n', rfl, F', N', hn, vals', rfl, hJ'⟩
    | cont =>
      obtain ⟨h', tk', vals', news', n', rfl, F', N', hn, hJ'⟩ := h₃
      exact ⟨h', tk', _, news', n', rfl, F', N', hn, vals', rfl, hJ'⟩
  · rw [if_neg hb] at h₂ ⊢; exact h₂
end
/- Dx -/
section
variable {prog : Program} {w : World} {K : Type} [DecidableEq K] {knd : HeapKind prog w K} {A : Around} {E : Value → Shared → Prop} {s : Shared}
theorem sd_new {d a : Addr} {k : K} {v : Value} {Q : Value → Shared → Prop} (hu : knd.room A) (hkey : knd.is s.heap k a) (hm : s.heap.DictOfH knd d [])
    (hQ : ∀ h', h'.DictOfH knd d [(k, a, v)] → Heap.SameBut d s.heap h' → Q v { s with heap := h', toks := s.toks + knd.draws k }) :
    wpAny (model prog w) A (dictSetDefault d (.ref a) v) Q E s := by
  obtain ⟨o, es, ep, ho, hc, hd, he, his, hn⟩ := hm
  have hz := size_of_entries he
  unfold dictSetDefault
  try with_reducible refine wpAny_holding ?_
  refine wpAny_bind (knd.pyHash hu hkey ?_)
  refine wpAny_bind (wpAny_dictFind_heap (s := { s with toks := s.toks + knd.draws k }) hu hkey ho hd he his hn ?_ ?_)
  · intro hno
    refine wpAny_bind (wpAny_rule (wpAny_bind (wpAny_updateDictKeys (hz := by rw [hz, sizeLine_eq]; simp) (s := { s with toks := s.toks + knd.draws k }) ho hd (wpAny_pure (hQ _ ⟨_, _, ep + 1, Heap.get?_update_self _ ho (Obj.isFreed_of_dict (Obj.data_mapDictKeys hd _)),
      hc.mapDictKeys _, Obj.data_mapDictKeys hd _, ?_, ?_, ?_⟩ (Heap.SameBut.update ..))))))
    · simp [he, entryOfKey]
    · intro x hx
      rw [List.mem_singleton.mp hx]
      exact knd.keeps hkey ho hd (Heap.SameBut.update ..)
    · simp
  · intro j p hj
    simp at hj
end
/-- a table of tuples of ints -/
structure TT (w : World) (led : Led) (oN : Obj) (xs : List (List Int × Addr × Value)) : Prop where
  ex : oN.ExactDict
  dat : ∃ es ep, oN.data = .dict es ep ∧ es.toList = xs.map (entryOfKey (tupleKind (PySem.intKind PRG w)))
  keys : ∀ x ∈ xs, IntTup led x.1 x.2.1
  nd : (xs.map (·.1)).Nodup
theorem TT.mono {w : World} {led led' : Led} {oN : Obj} {xs : List (List Int × Addr × Value)} (h : TT w led oN xs) (k : ∀ p ∈ led, p ∈ led') : TT w led' oN xs := ⟨h.ex, h.dat, fun x hx => (h.keys x hx).mono k, h.nd⟩
theorem IntTup.key {w : World} {g h : Heap} {L : Addr} {led : Led} {as : List Int} {b : Addr} (x : IntTup led as b) (N : News g L h led) : IsTupleKey (PySem.intKind PRG w) h as b := by
  obtain ⟨vs, n, hm, hi⟩ := x
  exact ⟨_, _, _, N.get hm, rfl, rfl, itemsAre_ints hi⟩
theorem TT.at {w : World} {g h : Heap} {L d : Addr} {led news : Led} {oN : Obj} {xs : List (List Int × Addr × Value)} (x : TT w led oN xs) (N : News g L h news) (hs : ∀ p ∈ led, p ∈ news) (hm : (d, oN) ∈ news) : h.DictOfH (tupleKind (PySem.intKind PRG w)) d xs :=
  let ⟨es, ep, hd, he⟩ := x.dat
  ⟨oN, es, ep, N.get hm, x.ex, hd, he, fun y hy => ((x.keys y hy).mono hs).key N, x.nd⟩
theorem TT.ofEmpty {w : World} {led : Led} {o : Obj} (hd : o.IsDictOf (PySem.intKind PRG w) []) : TT w led o [] := by
  obtain ⟨es, ep, hc, hdat, _, hp, _⟩ := hd
  have he : es.toList = [] := List.length_eq_zero_iff.mp hp.length
  exact ⟨hc, ⟨es, ep, hdat, he⟩, by simp, List.nodup_nil⟩
section
variable {w : World} {g : Heap} {L : Addr} {a : Addr} {A : Around} {E : Value → Shared → Prop} {gs : Array GenState} {dr : Drawn} {os : OsState} {d : Addr} {m : Str → Option Value} {news : Led} {led : Led} {o : Obj} {hp : Heap} {tk : Nat}
/- methods of dicts -/
theorem gm_dict {name : Str} {id : String} {pl : Sem Bool} {s : Shared} {Q : Value × List Value → Shared → Prop} {kvs : List (Int × Value)} (slot : Slot "dict" name id) (hty : typeOf (.builtin id) = pure (.type "method_descriptor")) (N : News g L s.heap news) (hm : (d, o) ∈ news) (hd : o.IsDictOf (PySem.intKind PRG w) kvs) (h : Q (.builtin id, [.ref d]) s) :
    wpAny (model PRG w) A (getMethod (.ref d) name pl) Q E s :=
  have hD := kda_dict N hm hd
  getMethod_builtin hD.typeIs PySem.F.plainAttrs_dict slot hty hD.mapOf.noDict h
theorem gm_dictT {name : Str} {id : String} {pl : Sem Bool} {s : Shared} {Q : Value × List Value → Shared → Prop} {xs : List (List Int × Addr × Value)} (slot : Slot "dict" name id) (hty : typeOf (.builtin id) = pure (.type "method_descriptor")) (N : News g L s.heap news) (hm : (d, o) ∈ news) (hd : TT w led o xs) (h : Q (.builtin id, [.ref d]) s) :
    wpAny (model PRG w) A (getMethod (.ref d) name pl) Q E s :=
  getMethod_builtin ⟨o, N.get hm, hd.ex.1⟩ PySem.F.plainAttrs_dict slot hty (fun b e => by injection e with e; subst e; exact ⟨o, N.get hm, hd.ex.2.1⟩) h
theorem c_getI {kvs : List (Int × Value)} {k : Int} {t : Tok} {dflt : Value} {Q : Value → Shared → Prop} (N : News g L hp news) (hm : (d, o) ∈ news) (hd : o.IsDictOf (PySem.intKind PRG w) kvs) (lo : (d == sysModules) = false) (h : Q ((valueAt kvs k).getD dflt) ⟨hp, gs, dr, tk + 1, os⟩) :
    wpAny (model PRG w) A (call (.builtin "dict.get") [.ref d, .int k t, dflt]) Q E ⟨hp, gs, dr, tk, os⟩ := kdg_get2 (s := ⟨hp, gs, dr, tk, os⟩) N hm hd lo (intKind_is _ _ _ _) _ rfl h
theorem c_getT {xs : List (List Int × Addr × Value)} {as : List Int} {dflt : Value} {Q : Value → Shared → Prop} (N : News g L hp news) (hm : (d, o) ∈ news) (hd : TT w led o xs) (hs : ∀ p ∈ led, p ∈ news) (hk : IntTup news as a) (lo : (d == sysModules) = false) (hu : A.units + 1 < cLine) (h : Q (((atKey xs as).map (·.2)).getD dflt) ⟨hp, gs, dr, tk + (tupleKind (PySem.intKind PRG w)).draws as, os⟩) :
    wpAny (model PRG w) A (call (.builtin "dict.get") [.ref d, .ref a, dflt]) Q E ⟨hp, gs, dr, tk, os⟩ :=
  have hD := hd.at (h := hp) N hs hm
  call_meetsIn (s := ⟨hp, gs, dr, tk, os⟩) PySem.F.slot_dict_get hD.typeIs PySem.F.entry_dict_get (PySem.F.args_dict_get_3 _ _ _) (meetsH_dict_get_default (tupleKind (PySem.intKind PRG w)) d a lo dflt) ⟨tupleKind_room_in1 hu, as, xs, hk.key N, hD, h⟩
theorem c_sdI {kvs : List (Int × Value)} {k : Int} {t : Tok} {dflt : Value} {G : Obj → Led} {Q : Value → Shared → Prop} (F : autoParam (Fr g L hp m) kA) (N : autoParam (News g L hp news) kA) (U : autoParam (UpdF d o news G) kV) (hd : autoParam (o.IsDictOf (PySem.intKind PRG w) kvs) kA) (lo : autoParam ((d == sysModules) = false) kA) (hz : autoParam (kvs.length ≤ 100000) kO) (hn : autoParam (valueAt kvs k = none) kA)
    (h : ∀ h' o', Fr g L h' m → News g L h' (G o') → o'.IsDictOf (PySem.intKind PRG w) (kvs ++ [(k, dflt)]) → Q dflt ⟨h', gs, dr, tk + 1, os⟩) :
    wpAny (model PRG w) A (call (.builtin "dict.setdefault") [.ref d, .int k t, dflt]) Q E ⟨hp, gs, dr, tk, os⟩ := by
  obtain ⟨pre, post, rfl, hg, b1, b2⟩ := U.split
  have hm := N (d, o) (List.mem_append_right _ (.head _))
  have hD : hp.DictOf (PySem.intKind PRG w) d kvs := Heap.dictOf_iff.mpr ⟨o, hm.1, hd⟩
  refine call_meetsIn (s := ⟨hp, gs, dr, tk, os⟩) PySem.F.slot_dict_setdefault hD.typeIs PySem.F.entry_dict_setdefault (PySem.F.args_dict_setdefault_3 _ _ _) (kt_meets_setdefault (PySem.intKind PRG w) d (intKind_is _ _ k t) lo dflt)
    ⟨kvs, hD, (by rw [sizeLine_eq]; omega), (fun v hv => by rw [hn] at hv; cases hv), fun _ h' hmm hs => ?_⟩
  obtain ⟨o', ho', hd'⟩ := Heap.dictOf_iff.mp hmm
  rw [stored_absent hn] at hd'
  exact h h' o' (F.change hs hm.2.1 hm.2.2) (hg o' ▸ N.setIn b1 b2 hs ho') hd'
theorem c_sdT {as : List Int} {v : Value} {G : Obj → Led} {Q : Value → Shared → Prop} (F : Fr g L hp m) (N : News g L hp news) (U : UpdF d o news G) (hd : TT w led o []) (hk : IntTup led as a) (hs : ∀ p ∈ led, p ∈ news) (lo : (d == sysModules) = false) (hu : A.units + 1 < cLine)
    (h : ∀ h' o', Fr g L h' m → News g L h' (G o') → TT w led o' [(as, a, v)] → Q v ⟨h', gs, dr, tk + (tupleKind (PySem.intKind PRG w)).draws as, os⟩) :
    wpAny (model PRG w) A (call (.builtin "dict.setdefault") [.ref d, .ref a, v]) Q E ⟨hp, gs, dr, tk, os⟩ := by
  obtain ⟨pre, post, rfl, hg, b1, b2⟩ := U.split
  have hmem : (d, o) ∈ pre ++ (d, o) :: post := List.mem_append_right _ (.head _)
  have hm := N (d, o) hmem
  have hD := hd.at (h := hp) N hs hmem
  have mt : MeetsIn PRG w (Builtin.«dict.setdefault» ⟨[.ref d, .ref a, v], []⟩) (fun A R s => (tupleKind (PySem.intKind PRG w)).room A.in1 ∧ (tupleKind (PySem.intKind PRG w)).is s.heap as a ∧ s.heap.DictOfH (tupleKind (PySem.intKind PRG w)) d [] ∧
      (∀ h', h'.DictOfH (tupleKind (PySem.intKind PRG w)) d [(as, a, v)] → Heap.SameBut d s.heap h' → R (.ok (.ret v)) { s with heap := h', toks := s.toks + (tupleKind (PySem.intKind PRG w)).draws as })) :=
    .of_wp fun A R s ⟨hu, hkey, hm, h1⟩ => by
      unfold Builtin.«dict.setdefault»
      refine wpAny_bind ?_
      unfold Builtin.Dict.keyAndDefault
      refine wpAny_bind (wpAny_notOrdered_dict hm.typeIs ?_)
      show wpAny _ _ (pure (d, Value.ref a, some v)) _ _ s
      refine wpAny_pure ?_
      show wpAny _ _ (if (d == sysModules) = true then _ else (dictSetDefault d (Value.ref a) v >>= _)) _ _ s
      rw [if_neg (by rw [lo]; exact Bool.false_ne_true)]
      exact wpAny_bind (sd_new hu hkey hm fun h' hm' hs' => wpAny_pure ⟨v, rfl, h1 h' hm' hs'⟩)
  refine call_meetsIn (s := ⟨hp, gs, dr, tk, os⟩) PySem.F.slot_dict_setdefault hD.typeIs PySem.F.entry_dict_setdefault (PySem.F.args_dict_setdefault_3 _ _ _) mt ⟨tupleKind_room_in1 hu, (hk.mono hs).key N, hD, fun h' hmm hsb => ?_⟩
  obtain ⟨o', es', ep', ho', hc', hd', he', _, hn'⟩ := hmm
  exact h h' o' (F.change hsb hm.2.1 hm.2.2) (hg o' ▸ N.setIn b1 b2 hsb ho') ⟨hc', ⟨es', ep', hd', he'⟩, (by intro x hx; rw [List.mem_singleton.mp hx]; exact hk), hn'⟩
end
/- Md -/
section
variable {w : World} {g : Heap} {L : Addr} {a : Addr} {cn : Str} {cs : Scope} {ccd : Value} {cl : List (Str × Addr)} {names : List Str} {C : Addr} {A : Around} {E : Value → Shared → Prop} {gs : Array GenState} {dr : Drawn} {os : OsState} {vals : List (Option Value)} {news : Led} {o : Addr} {d : Addr} {l : Addr} {es : List DictEntry} {n : Nat} {x : Str} {i : Nat} {hp : Heap} {tk : Nat}
theorem c_getI' {ob : Obj} {kvs : List (Int × Value)} {k : Int} {t : Tok} {dflt v : Value} {Q : Value → Shared → Prop} (N : News g L hp news) (hm : (d, ob) ∈ news) (hd : ob.IsDictOf (PySem.intKind PRG w) kvs) (lo : (d == sysModules) = false) (hv : valueAt kvs k = some v) (h : Q v ⟨hp, gs, dr, tk + 1, os⟩) :
    wpAny (model PRG w) A (call (.builtin "dict.get") [.ref d, .int k t, dflt]) Q E ⟨hp, gs, dr, tk, os⟩ := c_getI N hm hd lo (by rw [hv]; exact h)
theorem c_getR {ob : Obj} {kvs : List (Int × Value)} {k : Int} {t : Tok} {dflt : Value} {r : Addr} {Q : Value → Shared → Prop} (N : autoParam (News g L hp news) kA) (hm : autoParam ((d, ob) ∈ news) kM) (hd : autoParam (ob.IsDictOf (PySem.intKind PRG w) kvs) kA) (lo : autoParam ((d == sysModules) = false) kA) (hv : autoParam (valueAt kvs k = some (.ref r)) kR) (h : Q (.ref r) ⟨hp, gs, dr, tk + 1, os⟩) :
    wpAny (model PRG w) A (call (.builtin "dict.get") [.ref d, .int k t, dflt]) Q E ⟨hp, gs, dr, tk, os⟩ := c_getI N hm hd lo (by rw [hv]; exact h)
theorem c_getT' {led : Led} {ob : Obj} {c : Addr} {b : Bool} {q : Addr} {dflt : Value} {Q : Value → Shared → Prop} (N : autoParam (News g L hp news) kA) (hm : autoParam ((d, ob) ∈ news) kM) (hd : autoParam (TT w led ob [([], c, .bool b)]) kA) (hs : autoParam (∀ p ∈ led, p ∈ news) kS) (hk : IntTup news [] q) (lo : autoParam ((d == sysModules) = false) kA) (hu : autoParam (A.units + 1 < cLine) kT)
    (h : ∀ tk', Q (.bool b) ⟨hp, gs, dr, tk', os⟩) : wpAny (model PRG w) A (call (.builtin "dict.get") [.ref d, .ref q, dflt]) Q E ⟨hp, gs, dr, tk, os⟩ := c_getT N hm hd hs hk lo hu (h _)
/-- a method of what an attribute holds, an own object -/
theorem e_amcall {attr meth : Str} {xp xp2 ap pos : Pos} {args : List PySem.Expr} {f o2 d2 C2 : Addr} {es2 : List DictEntry} {n2 : Nat} {Q : Value → Shared → Prop} (F : autoParam (Fr g L hp (lkv names vals)) kA) (N : autoParam (News g L hp news) kA) (X : autoParam ((heapK w.params).In g) kA) (hl : autoParam (Lv cs names x i) kA) (hv : autoParam (vals[i]? = some (some (.ref o))) kR)
    (ho : autoParam ((o, instObj C d) ∈ news) kM) (hdd : autoParam ((d, dictOf es n) ∈ news) kM) (ha : autoParam (getL attr es = some (some (.ref o2))) kA) (hk : AttrOk (heapK w.params) C attr)
    (ho2 : autoParam ((o2, instObj C2 d2) ∈ news) kM) (hdd2 : autoParam ((d2, dictOf es2 n2) ∈ news) kM) (ha2 : autoParam (getL meth es2 = some none) kA) (hk2 : MethOk (heapK w.params) C2 meth f)
    (hn : autoParam (args.all nst = true) kR) (he : autoParam (args.isEmpty = false) kR) (hlen : autoParam (decide (args.length < 30) = true) kR) (hp' : autoParam ((ap.endLine == pos.line) = true) kR)
    (h : wpArgs (model PRG w) A E (envX cn cs L a ccd cl) args (fun vs s₁ => (heapK w.params).In s₁.heap ∧ wpAny (model PRG w) A (call (.ref f) (.ref o2 :: vs)) Q E s₁) ⟨hp, gs, dr, tk + 1, os⟩) :
    wpAny (model PRG w) A (eval (.Call (.Attribute (.Attribute (.Name x xp) attr xp2) meth ap) args [] pos) (envX cn cs L a ccd cl)) Q E ⟨hp, gs, dr, tk, os⟩ := by
  obtain ⟨k1, k2, k3, k4⟩ := hk2
  refine MethodCall_ (pl := _) (e_attr F N X hl hv ho hdd ha hk rfl (method_inst (s := ⟨hp, gs, dr, tk + 1, os⟩) F X (InstAt.of_news N ho2 hdd2) k1 k2 k3 ha2 ?_)) (ev_mcall base_attr hn hlen hp')
  cases args with
  | nil => cases he
  | cons e r =>
    refine callWith_K X k4 (wpArgs_spliced hn ?_) ?_ ?_
    · exact h
    · simp only [List.all_cons, Bool.and_eq_true] at hn; exact star_nst hn.1
    · simp only [List.all_cons, Bool.and_eq_true] at hn; exact any_nst hn.2
theorem base_call {env : Env} {ob e : PySem.Expr} {as : List PySem.Expr} {ks : List Keyword} {meth : Str} {xp : Pos} {t : Sem Value} : attributeBase (.Call ob (e :: as) ks xp) meth env t = t := by cases ob <;> rfl
noncomputable def Recv (w : World) (A : Around) (E : Value → Shared → Prop) (meth : Str) (K : Addr → String → Shared → Prop) (v : Value) (s₁ : Shared) : Prop :=
  ∃ l id, v = .ref l ∧ (∀ (pl : Sem Bool) (R : Value × List Value → Shared → Prop), R (.builtin id, [.ref l]) s₁ → wpAny (model PRG w) A (getMethod (.ref l) meth pl) R E s₁) ∧ K l id s₁
theorem recv_T {led : Led} {ob : Obj} {xs : List (List Int × Addr × Value)} {s : Shared} {K : Addr → String → Shared → Prop} (N : autoParam (News g L s.heap news) kA) (hm : autoParam ((l, ob) ∈ news) kM) (hd : autoParam (TT w led ob xs) kA) (h : K l "dict.get" s) : Recv w A E (Str.ofString "get") K (.ref l) s :=
  ⟨l, _, rfl, fun _ _ h => gm_dictT PySem.F.slot_dict_get PySem.F.type_dict_get N hm hd h, h⟩
/-- a method of a built-in kind of what a call gives -/
theorem e_cmeth {meth : Str} {ob ea : PySem.Expr} {as : List PySem.Expr} {ks : List Keyword} {cp ap pos : Pos} {args : List PySem.Expr} {s : Shared} {Q : Value → Shared → Prop} (hn : autoParam (args.all nst = true) kR) (he : autoParam (args.isEmpty = false) kR) (hlen : autoParam (decide (args.length < 30) = true) kR) (hp : autoParam ((ap.endLine == pos.line) = true) kR)
    (h : wpAny (model PRG w) A (eval (.Call ob (ea :: as) ks cp) (envX cn cs L a ccd cl)) (Recv w A E meth (fun l id s₁ => wpArgs (model PRG w) A E (envX cn cs L a ccd cl) args (fun vs s₂ => wpAny (model PRG w) A (call (.builtin id) (.ref l :: vs)) Q E s₂) s₁)) E s) :
    wpAny (model PRG w) A (eval (.Call (.Attribute (.Call ob (ea :: as) ks cp) meth ap) args [] pos) (envX cn cs L a ccd cl)) Q E s := by
  refine MethodCall_ (pl := _) (wpAny_mono h (fun v s₁ h₁ => ?_) fun _ _ x => x) (ev_mcall base_call hn hlen hp)
  obtain ⟨l, id, rfl, hg, h₁⟩ := h₁
  refine hg _ _ ?_
  cases args with
  | nil => cases he
  | cons e r =>
    refine callWith_method1 (wpArgs_spliced hn ?_) ?_ ?_
    · exact h₁
    · simp only [List.all_cons, Bool.and_eq_true] at hn; exact star_nst hn.1
    · simp only [List.all_cons, Bool.and_eq_true] at hn; exact any_nst hn.2
end
/-- the model's objects -/
structure MD where
  mdd : Addr
  mes : List DictEntry
  mn : Nat
  tb : Addr
  ot : Addr
  oT : Obj
  oO : Obj
  t0 : Addr
  t1 : Addr
  t2 : Addr
  o0 : Obj
  o1 : Obj
  o2 : Obj
  c0 : Addr
  c1 : Addr
  c2 : Addr
structure MOk (w : World) (bk md : Addr) (ρ : Nat → Bool) (led : Led) (x : MD) : Prop where
  i : (md, instObj 865 x.mdd) ∈ led
  d : (x.mdd, dictOf x.mes x.mn) ∈ led
  gb : getL (Str.ofString "bank") x.mes = some (some (.ref bk))
  gt : getL (Str.ofString "tables") x.mes = some (some (.ref x.tb))
  go : getL (Str.ofString "others") x.mes = some (some (.ref x.ot))
  n1 : getL (Str.ofString "other") x.mes = some none
  n2 : getL (Str.ofString "call") x.mes = some none
  n3 : getL (Str.ofString "value") x.mes = some none
  tT : (x.tb, x.oT) ∈ led
  hT : x.oT.IsDictOf (PySem.intKind PRG w) [(0, .ref x.t0), (1, .ref x.t1), (2, .ref x.t2)]
  lT : (x.tb == sysModules) = false
  tO : (x.ot, x.oO) ∈ led
  hO : x.oO.IsDictOf (PySem.intKind PRG w) []
  lO : (x.ot == sysModules) = false
  m0 : (x.t0, x.o0) ∈ led
  m1 : (x.t1, x.o1) ∈ led
  m2 : (x.t2, x.o2) ∈ led
  h0 : TT w led x.o0 [([], x.c0, .bool (ρ 0))]
  h1 : TT w led x.o1 [([], x.c1, .bool (ρ 1))]
  h2 : TT w led x.o2 [([], x.c2, .bool (ρ 2))]
  l0 : (x.t0 == sysModules) = false
  l1 : (x.t1 == sysModules) = false
  l2 : (x.t2 == sysModules) = false
theorem MOk.mono {w : World} {bk md : Addr} {ρ : Nat → Bool} {led led' : Led} {x : MD} (h : MOk w bk md ρ led x) (k : ∀ p ∈ led, p ∈ led') : MOk w bk md ρ led' x :=
  { h with i := k _ h.i, d := k _ h.d, tT := k _ h.tT, tO := k _ h.tO, m0 := k _ h.m0, m1 := k _ h.m1, m2 := k _ h.m2, h0 := h.h0.mono k, h1 := h.h1.mono k, h2 := h.h2.mono k }
/- Cn -/
noncomputable def bz (b : Bool) : Int := if b then 1 else 0
theorem bz_01 (b : Bool) : bz b = 0 ∨ bz b = 1 := by cases b <;> simp [bz]
noncomputable def conn (op : Str) (bs : List Bool) : Option Bool :=
  if op = Str.ofString "not" then some (!(bs.getD 0 false))
  else if op = Str.ofString "and" then some (bs.all id)
  else if op = Str.ofString "or" then some (bs.any id)
  else if op = Str.ofString "xor" then some (bs.getD 0 false != bs.getD 1 false)
  else if op = Str.ofString "=>" then some (!(bs.getD 0 false) || bs.getD 1 false)
  else none
structure Enough (op : Str) (bs : List Bool) : Prop where
  n : op = Str.ofString "not" → 1 ≤ bs.length
  x : op = Str.ofString "xor" → 2 ≤ bs.length
  i : op = Str.ofString "=>" → 2 ≤ bs.length
noncomputable def ov : Option Bool → Value
  | some b => .bool b
  | none => .none
section
variable {bs : List Bool}
theorem conn_not : conn (Str.ofString "not") bs = some (!(bs.getD 0 false)) := rfl
theorem conn_and : conn (Str.ofString "and") bs = some (bs.all id) := rfl
theorem conn_or : conn (Str.ofString "or") bs = some (bs.any id) := rfl
theorem conn_xor : conn (Str.ofString "xor") bs = some (bs.getD 0 false != bs.getD 1 false) := rfl
theorem conn_imp : conn (Str.ofString "=>") bs = some (!(bs.getD 0 false) || bs.getD 1 false) := rfl
theorem conn_none {op : Str} (h1 : op ≠ Str.ofString "not") (h2 : op ≠ Str.ofString "and") (h3 : op ≠ Str.ofString "or") (h4 : op ≠ Str.ofString "xor") (h5 : op ≠ Str.ofString "=>") : conn op bs = none := by
  unfold conn; rw [if_neg h1, if_neg h2, if_neg h3, if_neg h4, if_neg h5]
end
theorem range_all (bs : List Bool) : (List.range bs.length).all (fun i => (bs[i]?).getD true) = bs.all id := by
  rw [Bool.eq_iff_iff, List.all_eq_true, List.all_eq_true]
  constructor
  · intro h b hb
    obtain ⟨i, hi⟩ := List.getElem?_of_mem hb
    have := h i (List.mem_range.mpr (List.getElem?_eq_some_iff.mp hi).1)
    rw [hi] at this; exact this
  · intro h i hi
    have hlt := List.mem_range.mp hi
    rw [List.getElem?_eq_getElem hlt]
    exact h _ (List.getElem_mem hlt)
theorem range_any (bs : List Bool) : (List.range bs.length).any (fun i => (bs[i]?).getD true) = bs.any id := by
  rw [Bool.eq_iff_iff, List.any_eq_true, List.any_eq_true]
  constructor
  · rintro ⟨i, hi, h⟩
    have hlt := List.mem_range.mp hi
    rw [List.getElem?_eq_getElem hlt] at h
    exact ⟨_, List.getElem_mem hlt, h⟩
  · rintro ⟨b, hb, h⟩
    obtain ⟨i, hi⟩ := List.getElem?_of_mem hb
    exact ⟨i, List.mem_range.mpr (List.getElem?_eq_some_iff.mp hi).1, by rw [hi]; exact h⟩
section
variable {w : World} {g : Heap} {L : Addr} {A : Around} {E : Value → Shared → Prop} {gs : Array GenState} {dr : Drawn} {os : OsState} {l : Addr} {m : Str → Option Value} {news : Led} {o : Obj} {hp : Heap} {tk : Nat}
theorem truth_bools {prog : Program} {bs : List Bool} {A : Around} : TruthOf prog w A (fun i v => (bs.map Value.bool)[i]? = some v) (fun i => (bs[i]?).getD true) := by
  intro i v s Q E hP hQ
  rw [List.getElem?_map] at hP
  cases hb : bs[i]? with
  | none => rw [hb] at hP; exact nomatch hP
  | some b =>
    dsimp only at hQ
    rw [hb] at hP hQ
    obtain rfl := Option.some.inj hP
    exact wpAny_truthy_bool hQ
theorem c_all {bs : List Bool} {nl : Nat} {oS : Obj} {Q : Value → Shared → Prop} (hh : autoParam (A.handled = none) kR) (F : autoParam (Fr g L hp m) kA) (N : autoParam (News g L hp news) kA) (hm : autoParam ((l, oS) ∈ news) kM) (ho : oS = listOf (bs.map Value.bool).toArray nl ∨ oS = tup (bs.map Value.bool) nl)
    (h : ∀ h' tk', Fr g L h' m → News g L h' news → Q (.bool (bs.all id)) ⟨h', gs, dr, tk', os⟩) : wpAny (model PRG w) A (call (.builtin "all") [.ref l]) Q E ⟨hp, gs, dr, tk, os⟩ := by
  refine call_all_walk ?_
  have hlen : (bs.map Value.bool).toArray.size = bs.length := by simp
  have hnl : l ≠ hp.objs.size := Nat.ne_of_lt (Heap.lt_size (N _ hm).1)
  have fin : ∀ (oI : Obj) h' tk', (∀ b o, b ∉ [hp.objs.size] → (hp.push oI).get? b = some o → h'.get? b = some o) → Q (.bool ((List.range bs.length).all fun i => (bs[i]?).getD true)) ⟨h', gs, dr, tk', os⟩ := by
    intro oI h' tk' hk
    rw [range_all]
    have hk' : Heap.ExtBut hp.objs.size hp h' := fun b o hb e => hk b o (by simpa using hb) (Heap.get?_push_of_some _ e)
    exact h h' tk' (F.extBut hk' (Nat.le_refl _)) fun p hp' => ⟨hk' _ _ (Nat.ne_of_lt (Heap.lt_size (N p hp').1)) (N p hp').1, (N p hp').2⟩
  rcases ho with rfl | rfl
  · have hls : hp.IsList l (bs.map Value.bool).toArray := ⟨_, (N _ hm).1, rfl, nl, rfl⟩
    refine wpAny_pyIter_list (s := ⟨hp, gs, dr, tk, os⟩) hls ?_
    have W := Walks.list (prog := PRG) (w := w) (A := A.in1) hh hp.objs.size l hnl (bs.map Value.bool).toArray
    rw [hlen] at W
    exact ⟨hp.objs.size, _, _, bs.length, _, _, _, rfl, W, ⟨⟨_, Heap.get?_push_size _ rfl, rfl, rfl⟩, hls.at fun o e => Heap.get?_push_of_some _ e⟩, fun i v s Q E hP hQ => truth_bools i v s Q E (by simpa using hP) hQ, fin _⟩
  · have hls : hp.IsTuple l (bs.map Value.bool).toArray := ⟨_, (N _ hm).1, rfl, nl, rfl⟩
    refine wpAny_pyIter_tuple (s := ⟨hp, gs, dr, tk, os⟩) hls ?_
    have W := Walks.tuple (prog := PRG) (w := w) (A := A.in1) hh hp.objs.size l hnl (bs.map Value.bool).toArray
    rw [hlen] at W
    exact ⟨hp.objs.size, _, _, bs.length, _, _, _, rfl, W, ⟨⟨_, Heap.get?_push_size _ rfl, rfl, rfl⟩, hls.at fun o e => Heap.get?_push_of_some _ e⟩, fun i v s Q E hP hQ => truth_bools i v s Q E (by simpa using hP) hQ, fin _⟩
theorem c_any {bs : List Bool} {nl : Nat} {oS : Obj} {Q : Value → Shared → Prop} (hh : autoParam (A.handled = none) kR) (F : autoParam (Fr g L hp m) kA) (N : autoParam (News g L hp news) kA) (hm : autoParam ((l, oS) ∈ news) kM) (ho : oS = listOf (bs.map Value.bool).toArray nl ∨ oS = tup (bs.map Value.bool) nl)
    (h : ∀ h' tk', Fr g L h' m → News g L h' news → Q (.bool (bs.any id)) ⟨h', gs, dr, tk', os⟩) : wpAny (model PRG w) A (call (.builtin "any") [.ref l]) Q E ⟨hp, gs, dr, tk, os⟩ := by
  refine call_any_walk ?_
  have hlen : (bs.map Value.bool).toArray.size = bs.length := by simp
  have hnl : l ≠ hp.objs.size := Nat.ne_of_lt (Heap.lt_size (N _ hm).1)
  have fin : ∀ (oI : Obj) h' tk', (∀ b o, b ∉ [hp.objs.size] → (hp.push oI).get? b = some o → h'.get? b = some o) → Q (.bool ((List.range bs.length).any fun i => (bs[i]?).getD true)) ⟨h', gs, dr, tk', os⟩ := by
    intro oI h' tk' hk
    rw [range_any]
    have hk' : Heap.ExtBut hp.objs.size hp h' := fun b o hb e => hk b o (by simpa using hb) (Heap.get?_push_of_some _ e)
    exact h h' tk' (F.extBut hk' (Nat.le_refl _)) fun p hp' => ⟨hk' _ _ (Nat.ne_of_lt (Heap.lt_size (N p hp').1)) (N p hp').1, (N p hp').2⟩
  rcases ho with rfl | rfl
  · have hls : hp.IsList l (bs.map Value.bool).toArray := ⟨_, (N _ hm).1, rfl, nl, rfl⟩
    refine wpAny_pyIter_list (s := ⟨hp, gs, dr, tk, os⟩) hls ?_
    have W := Walks.list (prog := PRG) (w := w) (A := A.in1) hh hp.objs.size l hnl (bs.map Value.bool).toArray
    rw [hlen] at W
    exact ⟨hp.objs.size, _, _, bs.length, _, _, _, rfl, W, ⟨⟨_, Heap.get?_push_size _ rfl, rfl, rfl⟩, hls.at fun o e => Heap.get?_push_of_some _ e⟩, fun i v s Q E hP hQ => truth_bools i v s Q E (by simpa using hP) hQ, fin _⟩
  · have hls : hp.IsTuple l (bs.map Value.bool).toArray := ⟨_, (N _ hm).1, rfl, nl, rfl⟩
    refine wpAny_pyIter_tuple (s := ⟨hp, gs, dr, tk, os⟩) hls ?_
    have W := Walks.tuple (prog := PRG) (w := w) (A := A.in1) hh hp.objs.size l hnl (bs.map Value.bool).toArray
    rw [hlen] at W
    exact ⟨hp.objs.size, _, _, bs.length, _, _, _, rfl, W, ⟨⟨_, Heap.get?_push_size _ rfl, rfl, rfl⟩, hls.at fun o e => Heap.get?_push_of_some _ e⟩, fun i v s Q E hP hQ => truth_bools i v s Q E (by simpa using hP) hQ, fin _⟩
/- lists of bits as ints -/
theorem c_addl {vs ws : List Value} {b : Addr} {n1 n2 : Nat} {Q : Value → Shared → Prop} (F : autoParam (Fr g L hp m) kA) (N : autoParam (News g L hp news) kA) (hm : autoParam ((l, listOf vs.toArray n1) ∈ news) kM) (hb : autoParam ((b, listOf ws.toArray n2) ∈ news) kM) (hz : vs.length + ws.length ≤ 100000)
    (h : ∀ D h', Fr g L h' m → News g L h' ((D, listOf (vs ++ ws).toArray 0) :: news) → AllLt D news → Q (.ref D) ⟨h', gs, dr, tk, os⟩) : wpAny (model PRG w) A (binaryOp .Add (.ref l) (.ref b)) Q E ⟨hp, gs, dr, tk, os⟩ :=
  add_lists (s := ⟨hp, gs, dr, tk, os⟩) F N (Mine.News.isList N hm) (Mine.News.isList N hb) (fun h' F' N' => h _ h' F' N' (allLt_of fun p hp' => Heap.lt_size (N p hp').1)) (by rw [sizeLine_eq]; omega)
theorem c_min {vs : List Value} {ns : List Int} {n : Nat} {Q : Value → Shared → Prop} (hh : autoParam (A.handled = none) kR) (F : autoParam (Fr g L hp m) kA) (N : autoParam (News g L hp news) kA) (hm : autoParam ((l, listOf vs.toArray n) ∈ news) kM) (hi : IntsAre vs ns) (hne : 0 < ns.length)
    (h : ∀ h' M (t : Tok) tk', Fr g L h' m → News g L h' news → M ∈ ns → (∀ a, a ∈ ns → M ≤ a) → Q (.int M t) ⟨h', gs, dr, tk', os⟩) : wpAny (model PRG w) A (call (.builtin "min") [.ref l]) Q E ⟨hp, gs, dr, tk, os⟩ :=
  min_list_N (s := ⟨hp, gs, dr, tk, os⟩) hh F N (Mine.News.isList N hm) hi hne h
theorem c_max {vs : List Value} {ns : List Int} {n : Nat} {Q : Value → Shared → Prop} (hh : autoParam (A.handled = none) kR) (F : autoParam (Fr g L hp m) kA) (N : autoParam (News g L hp news) kA) (hm : autoParam ((l, listOf vs.toArray n) ∈ news) kM) (hi : IntsAre vs ns) (hne : 0 < ns.length)
    (h : ∀ h' M (t : Tok) tk', Fr g L h' m → News g L h' news → M ∈ ns → (∀ a, a ∈ ns → a ≤ M) → Q (.int M t) ⟨h', gs, dr, tk', os⟩) : wpAny (model PRG w) A (call (.builtin "max") [.ref l]) Q E ⟨hp, gs, dr, tk, os⟩ :=
  max_list_N (s := ⟨hp, gs, dr, tk, os⟩) hh F N (Mine.News.isList N hm) hi hne h
theorem c_intb {b : Bool} {Q : Value → Shared → Prop} (h : Q (.int (bz b) tk) ⟨hp, gs, dr, tk + 1, os⟩) : wpAny (model PRG w) A (call (.type "int") [.bool b]) Q E ⟨hp, gs, dr, tk, os⟩ := call_int_bool (s := ⟨hp, gs, dr, tk, os⟩) h
theorem o_le {a b : Int} {t u : Tok} {s : Shared} {Q : Value → Shared → Prop} (h : Q (.bool (decide (a ≤ b))) s) : wpAny (model PRG w) A (compareOp .LtE (.int a t) (.int b u)) Q E s := le_int h
theorem o_mod {a b : Int} {t u : Tok} {Q : Value → Shared → Prop} (hb : b ≠ 0) (h : Q (.int (a.fmod b) tk) ⟨hp, gs, dr, tk + 1, os⟩) : wpAny (model PRG w) A (binaryOp .Mod (.int a t) (.int b u)) Q E ⟨hp, gs, dr, tk, os⟩ := mod_int' (s := ⟨hp, gs, dr, tk, os⟩) hb h
theorem o_sub' {a b : Int} {t u : Tok} {Q : Value → Shared → Prop} (h : Q (.int (a - b) tk) ⟨hp, gs, dr, tk + 1, os⟩) : wpAny (model PRG w) A (binaryOp .Sub (.int a t) (.int b u)) Q E ⟨hp, gs, dr, tk, os⟩ := sub_int (s := ⟨hp, gs, dr, tk, os⟩) h
theorem o_add' {a b : Int} {t u : Tok} {Q : Value → Shared → Prop} (h : Q (.int (a + b) tk) ⟨hp, gs, dr, tk + 1, os⟩) : wpAny (model PRG w) A (binaryOp .Add (.int a t) (.int b u)) Q E ⟨hp, gs, dr, tk, os⟩ := add_int (s := ⟨hp, gs, dr, tk, os⟩) h
end
theorem ints_app1 {vs : List Value} {ns : List Int} {n : Int} {t : Tok} (h : IntsAre vs ns) : IntsAre (vs ++ [.int n t]) (ns ++ [n]) := by
  induction h with
  | nil => exact .cons _ _ .nil
  | cons _ _ _ ih => exact .cons _ _ ih
theorem bz_min {bs : List Bool} {M : Int} (h1 : M ∈ bs.map bz ++ [1]) (h2 : ∀ a ∈ bs.map bz ++ [1], M ≤ a) : M = bz (bs.all id) := by
  cases hb : bs.all id with
  | true =>
    have hall : ∀ a ∈ bs.map bz ++ [1], a = 1 := by
      intro a ha
      rcases List.mem_append.mp ha with ha | ha
      · obtain ⟨b, hb', rfl⟩ := List.mem_map.mp ha
        have := List.all_eq_true.mp hb b hb'
        simp only [id] at this
        rw [this]; rfl
      · exact List.mem_singleton.mp ha
    rw [hall M h1]; rfl
  | false =>
    have : ∃ b ∈ bs, b = false := by
      have := List.all_eq_false.mp hb
      obtain ⟨b, hb', h⟩ := this
      exact ⟨b, hb', by simpa using h⟩
    obtain ⟨b, hb', rfl⟩ := this
    have h0 := h2 0 (List.mem_append_left _ (List.mem_map.mpr ⟨false, hb', rfl⟩))
    have : M = 0 ∨ M = 1 := by
      rcases List.mem_append.mp h1 with h | h
      · obtain ⟨b, _, rfl⟩ := List.mem_map.mp h; exact bz_01 b
      · exact .inr (List.mem_singleton.mp h)
    show M = 0
    omega
theorem bz_max {bs : List Bool} {M : Int} (h1 : M ∈ bs.map bz ++ [0]) (h2 : ∀ a ∈ bs.map bz ++ [0], a ≤ M) : M = bz (bs.any id) := by
  cases hb : bs.any id with
  | false =>
    have hall : ∀ a ∈ bs.map bz ++ [0], a = 0 := by
      intro a ha
      rcases List.mem_append.mp ha with ha | ha
      · obtain ⟨b, hb', rfl⟩ := List.mem_map.mp ha
        have := List.any_eq_false.mp hb b hb'
        simp only [id, Bool.not_eq_true] at this
        rw [this]; rfl
      · exact List.mem_singleton.mp ha
    rw [hall M h1]; rfl
  | true =>
    obtain ⟨b, hb', h⟩ := List.any_eq_true.mp hb
    simp only [id] at h
    subst h
    have h0 := h2 1 (List.mem_append_left _ (List.mem_map.mpr ⟨true, hb', rfl⟩))
    have : M = 0 ∨ M = 1 := by
      rcases List.mem_append.mp h1 with h | h
      · obtain ⟨b, _, rfl⟩ := List.mem_map.mp h; exact bz_01 b
      · exact .inl (List.mem_singleton.mp h)
    show M = 1
    omega
/-- a worth -/
noncomputable def WV (o : Option Bool) (v : Value) : Prop := match o with | some b => ∃ t, v = .int (bz b) t | none => v = .none
/- Cm -/
section
open PySem PySem.W PyProof.Rows PySem.Calls PyProof.Rows.LCg
/-- behind an element -/
noncomputable def EltEnd (g : Heap) (L : Addr) (m : Str → Option Value) (gs : Array GenState) (dr : Drawn) (os : OsState) (I : Addr) (oI : Obj) (C : Addr) (oC : Obj) (D : Addr) (ys : List Value) (J : List Value → Led → Prop) (y : Value) (s' : Shared) : Prop :=
  ∃ h' tk' nx, s' = ⟨h', gs, dr, tk', os⟩ ∧ Fr g L h' m ∧ News g L h' ((I, oI) :: (C, oC) :: (D, lst ys) :: nx) ∧ Off3 I C D nx ∧ J (ys ++ [y]) nx
/-- what each element does -/
noncomputable def EltOk (w : World) (A : Around) (g : Heap) (L : Addr) (m : Str → Option Value) (gs : Array GenState) (dr : Drawn) (os : OsState) (env : Env) (elt : PySem.Expr) (x : Str) (scope : Scope) (cl : List (Str × Addr)) (n : Nat) (P : Nat → Value → Prop) (J : Nat → List Value → Led → Prop) : Prop :=
  ∀ k v ys nx I oI C oC D m₂ h₁ tk₁ E', k < n → P k v → J k ys nx → NsObj oC m₂ → m₂ x = some v → Fr g L h₁ m → News g L h₁ ((I, oI) :: (C, oC) :: (D, lst ys) :: nx) → Off3 I C D nx → ((@Ne Nat I C) ∧ (@Ne Nat I D) ∧ (@Ne Nat C D)) →
    wpAny (model PRG w) A (eval elt (compEnvC scope cl C env)) (EltEnd g L m gs dr os I oI C oC D ys (J (k + 1))) E' ⟨h₁, gs, dr, tk₁, os⟩
section
variable {w : World} {g : Heap} {L : Addr} {A : Around} {E : Value → Shared → Prop} {env : Env} {gs : Array GenState} {dr : Drawn} {os : OsState} {l : Addr} {m : Str → Option Value} {hp : Heap} {tk : Nat} {news : Led} {oS : Obj}
theorem rest_of {elt : PySem.Expr} {x : Str} {scope : Scope} {cl : List (Str × Addr)} {n : Nat} {P : Nat → Value → Prop} {J : Nat → List Value → Led → Prop} {S : Led → Prop} (hS : ∀ k ys nx, J k ys nx → S nx) (he : EltOk w A g L m gs dr os env elt x scope cl n P J) :
    ∀ (k i : Nat) (ys : List Value) (nx : Led) (h₀ : Heap) (tk₀ : Nat), i + k = n → J i ys nx → CompRest PRG w A g L m env elt x scope cl ⟨h₀, gs, dr, tk₀, os⟩ S P (fun ys nx => J n ys nx) k i ys nx
  | 0, i, ys, nx, h₀, tk₀, hi, hj => by
    obtain rfl : i = n := by omega
    exact CompRest.zero hj
  | k + 1, i, ys, nx, h₀, tk₀, hi, hj => by
    refine CompRest.succ fun v I oI C oC D m₂ h tk E' hP hns hm F N off ne => ?_
    refine wpAny_mono (he i v ys nx I oI C oC D m₂ h tk E' (by omega) hP hj hns hm F N off ne) (fun y s' h' => ?_) fun _ _ x => x
    obtain ⟨h₂, tk₂, nx₂, rfl, F₂, N₂, off₂, hj₂⟩ := h'
    exact ⟨h₂, tk₂, nx₂, rfl, F₂, N₂, off₂, hS _ _ _ hj₂, rest_of hS he k (i + 1) (ys ++ [y]) nx₂ h₀ tk₀ (by omega) hj₂⟩
/-- the source: a list or a tuple -/
theorem lc_block {elt iter : PySem.Expr} {x : Str} {px : Pos} {scope : Scope} {cl : List (Str × Addr)} {pos : Pos} {vs : List Value} {nl : Nat} {J : Nat → List Value → Led → Prop} {RR : Value → Addr → Result → Shared → Prop}
    (hh : A.handled = none) (hcell : ∀ y ∈ scope.names, y.2 ≠ .cell) (hkind : scope.kind = .function) (hx : scope.names.lookup x = some .local)
    (F : Fr g L hp m) (N : News g L hp news) (hm : (l, oS) ∈ news) (ho : oS = listOf vs.toArray nl ∨ oS = tup vs nl) (hz : vs.length ≤ 100000) (hj : J 0 [] news) (hJ : ∀ k ys nx, J k ys nx → (l, oS) ∈ nx)
    (he : EltOk w A g L m gs dr os env elt x scope cl vs.length (fun k v => vs[k]? = some v) J)
    (hRR : ∀ D C h tk m' ys nx, Fr g L h m → News g L h ((D, lst ys) :: nx) → Off1 D nx → h.Ns C m' → g.get? C = none → g.get? D = none → C ≠ L → D ≠ L → C ≠ D → (∀ p ∈ nx, p.1 ≠ C) → J vs.length ys nx → RR (.ref D) C (.ok .next) ⟨h, gs, dr, tk, os⟩) :
    wpAny (model PRG w) A (pyIter (.ref l)) (fun it s₂ => wpAny (model PRG w) A (newList []) (fun acc s₃ => wpAny (model PRG w) A (newFunctionEnv scope env.globals cl [] env.qual none .none (some env)) (fun cenv s₄ =>
      codeAny (model PRG w) A (.compStart (.ListComp elt [⟨.Name x px, iter, [], 0⟩] scope pos) 0 it acc { cenv with scope := relabel scope env }) (RR acc cenv.locals) s₄) E s₃) E s₂) E ⟨hp, gs, dr, tk, os⟩ := by
  have hlt : l < hp.objs.size := Heap.lt_size (N _ hm).1
  have hfp : ∀ (oI : Obj), ∀ b ∈ [hp.objs.size, l], b < (hp.push oI).objs.size := by
    intro oI b hb
    rw [Heap.size_push]
    rcases List.mem_cons.mp hb with rfl | hb
    · exact Nat.lt_succ_self _
    · rw [List.mem_singleton.mp hb]; exact Nat.lt_succ_of_lt hlt
  have up : ∀ (oI : Obj) b o, hp.get? b = some o → (hp.push oI).get? b = some o := fun oI b o e => Heap.get?_push_of_some _ e
  rcases ho with rfl | rfl
  · have hls : hp.IsList l vs.toArray := ⟨_, (N _ hm).1, rfl, nl, rfl⟩
    refine wpAny_pyIter_list (s := ⟨hp, gs, dr, tk, os⟩) hls ?_
    have W := Walks.list (prog := PRG) (w := w) (A := A) hh hp.objs.size l (Nat.ne_of_lt hlt) vs.toArray
    rw [List.size_toArray] at W
    have W' : Walks PRG w A hp.objs.size [hp.objs.size, l] [hp.objs.size] vs.length (fun k v => vs[k]? = some v) (fun i h => h.IsListIter hp.objs.size l i ∧ h.IsList l vs.toArray) :=
      { W with item := fun i s Q E hi st hQ => W.item i s Q E hi st fun v h' tk hP => hQ v h' tk (by simpa using hP) }
    refine block_U (P := fun k v => vs[k]? = some v) (S := fun nx => (l, listOf vs.toArray nl) ∈ nx) (Fin := fun ys nx => J vs.length ys nx) (s₂ := ⟨hp.push _, gs, dr, tk, os⟩)
      W' (by rw [sizeLine_eq]; omega) (fun i h st => by obtain ⟨o, e, _⟩ := st.1; exact ⟨o, e⟩) ?_ hcell hkind hx ⟨⟨_, Heap.get?_push_size _ rfl, rfl, rfl⟩, hls.at fun o e => up _ _ o e⟩ (hfp _)
      (F.push _) (N.grown (up _)) (Nat.ne_of_lt F.ns.lt) (next_is_new F) (fun p hp' => Nat.ne_of_lt (Heap.lt_size (N p hp').1)) (hJ _ _ _ hj) (rest_of hJ he vs.length 0 [] news _ _ (by omega) hj) hRR
    rintro i h h' o nw st e e' k N' S'
    obtain ⟨⟨o', q, r⟩, _⟩ := st
    have e2 : o = o' := Option.some.inj (e.symm.trans q)
    exact ⟨⟨o, e', e2 ▸ r⟩, ⟨_, (N' _ S').1, rfl, nl, rfl⟩⟩
  · have hls : hp.IsTuple l vs.toArray := ⟨_, (N _ hm).1, rfl, nl, rfl⟩
    refine wpAny_pyIter_tuple (s := ⟨hp, gs, dr, tk, os⟩) hls ?_
    have W := Walks.tuple (prog := PRG) (w := w) (A := A) hh hp.objs.size l (Nat.ne_of_lt hlt) vs.toArray
    rw [List.size_toArray] at W
    have W' : Walks PRG w A hp.objs.size [hp.objs.size, l] [hp.objs.size] vs.length (fun k v => vs[k]? = some v) (fun i h => h.IsTupleIter hp.objs.size l i ∧ h.IsTuple l vs.toArray) :=
      { W with item := fun i s Q E hi st hQ => W.item i s Q E hi st fun v h' tk hP => hQ v h' tk (by simpa using hP) }
    refine block_U (P := fun k v => vs[k]? = some v) (S := fun nx => (l, tup vs nl) ∈ nx) (Fin := fun ys nx => J vs.length ys nx) (s₂ := ⟨hp.push _, gs, dr, tk, os⟩)
      W' (by rw [sizeLine_eq]; omega) (fun i h st => by obtain ⟨o, e, _⟩ := st.1; exact ⟨o, e⟩) ?_ hcell hkind hx ⟨⟨_, Heap.get?_push_size _ rfl, rfl, rfl⟩, hls.at fun o e => up _ _ o e⟩ (hfp _)
      (F.push _) (N.grown (up _)) (Nat.ne_of_lt F.ns.lt) (next_is_new F) (fun p hp' => Nat.ne_of_lt (Heap.lt_size (N p hp').1)) (hJ _ _ _ hj) (rest_of hJ he vs.length 0 [] news _ _ (by omega) hj) hRR
    rintro i h h' o nw st e e' k N' S'
    obtain ⟨⟨o', q, r⟩, _⟩ := st
    have e2 : o = o' := Option.some.inj (e.symm.trans q)
    exact ⟨⟨o, e', e2 ▸ r⟩, ⟨_, (N' _ S').1, rfl, nl, rfl⟩⟩
/-- a comprehension as a value -/
noncomputable def LcSrc (w : World) (A : Around) (g : Heap) (L : Addr) (m : Str → Option Value) (gs : Array GenState) (dr : Drawn) (os : OsState) (env : Env) (elt : PySem.Expr) (x : Str) (scope : Scope) (cl : List (Str × Addr)) (K : List Value → Led → Addr → Heap → Nat → Prop) (xv : Value) (s₁ : Shared) : Prop :=
  ∃ l oS vs nl news hp tk, ∃ J : Nat → List Value → Led → Prop, xv = .ref l ∧ s₁ = ⟨hp, gs, dr, tk, os⟩ ∧ A.handled = none ∧ Fr g L hp m ∧ News g L hp news ∧ (l, oS) ∈ news ∧ (oS = listOf vs.toArray nl ∨ oS = tup vs nl) ∧ vs.length ≤ 100000 ∧ J 0 [] news ∧ (∀ k ys nx, J k ys nx → (l, oS) ∈ nx) ∧
    EltOk w A g L m gs dr os env elt x scope cl vs.length (fun k v => vs[k]? = some v) J ∧ ∀ D ys nx h tk, J vs.length ys nx → Fr g L h m → News g L h ((D, lst ys) :: nx) → Off1 D nx → K ys nx D h tk
theorem e_lc {elt iter : PySem.Expr} {x : Str} {px : Pos} {scope : Scope} {cl : List (Str × Addr)} {pos : Pos} {Q : Value → Shared → Prop} (F₀ : Fr g L hp m)
    (hclos : closureFor scope env = pure cl) (hcell : ∀ y ∈ scope.names, y.2 ≠ .cell) (hkind : scope.kind = .function)
    (hnames : ∀ y ∈ scope.names, y.2 = .local → scope.names.lookup y.1 = some .local) (hx : scope.names.lookup x = some .local) (hs : ∀ x, foldedSetIterable iter env x = pure x)
    (h : wpAny (model PRG w) A (eval iter env) (LcSrc w A g L m gs dr os env elt x scope cl (fun _ _ D h tk => Q (.ref D) ⟨h, gs, dr, tk, os⟩)) E ⟨hp, gs, dr, tk, os⟩) :
    wpAny (model PRG w) A (eval (.ListComp elt [⟨.Name x px, iter, [], 0⟩] scope pos) env) Q E ⟨hp, gs, dr, tk, os⟩ := by
  rw [eval_ListComp]
  refine wpAny_comprehension_free (use := none) rfl hs hclos hkind hnames (wpAny_mono h (fun xv s₁ h₁ => ?_) fun _ _ e => e)
  obtain ⟨l, oS, vs, nl, news, hp, tk, J, rfl, rfl, hh, F, N, hm, ho, hz, hj, hJ, he, hK⟩ := h₁
  refine lc_block hh hcell hkind hx F N hm ho hz hj hJ he fun D C h tk m' ys nx F' N' o1 hn hC₀ hD₀ hCL hDL hCD offC fin => ?_
  refine ⟨m', hn, fun h'' hs'' => hK D ys nx h'' tk fin (F'.change hs'' hCL hC₀) (fun p hp => ?_) o1⟩
  refine ⟨hs''.extBut _ _ ?_ (N' p hp).1, (N' p hp).2⟩
  rcases List.mem_cons.mp hp with rfl | hp
  · exact Ne.symm hCD
  · exact offC p hp
/-- a comprehension bound to a local name -/
theorem x_lc {elt iter : PySem.Expr} {x y : Str} {px py : Pos} {scope : Scope} {cl : List (Str × Addr)} {pos spos : Pos} {rest : List Stmt} {Q : Flow → Shared → Prop} (hLe : env.locals = L)
    (hsw : swapsWith (.ListComp elt [⟨.Name x px, iter, [], 0⟩] scope pos) (some (.Name y py)) spos.line env = pure true)
    (hclos : closureFor scope env = pure cl) (hcell : ∀ z ∈ scope.names, z.2 ≠ .cell) (hkind : scope.kind = .function)
    (hnames : ∀ z ∈ scope.names, z.2 = .local → scope.names.lookup z.1 = some .local) (hx : scope.names.lookup x = some .local)
    (hy : env.kindOf y = some .local) (hp' : (env.scope.kind == .class || (env.scope.kind == .module && env.locals != env.globals)) = false) (hs : ∀ x, foldedSetIterable iter env x = pure x)
    (h : wpAny (model PRG w) A (eval iter env) (LcSrc w A g L m gs dr os env elt x scope cl (fun ys nx D h tk => ∀ h', Fr g L h' (fun z => if z = y then some (.ref D) else m z) → News g L h' ((D, lst ys) :: nx) → wpAny (model PRG w) A (execs rest env) Q E ⟨h', gs, dr, tk + 1, os⟩)) E ⟨hp, gs, dr, tk, os⟩) :
    wpAny (model PRG w) A (execs (.Assign [.Name y py] (.ListComp elt [⟨.Name x px, iter, [], 0⟩] scope pos) spos :: rest) env) Q E ⟨hp, gs, dr, tk, os⟩ := by
  subst hLe
  refine wpAny_execs_cons ?_
  rw [exec_Assign_Name_used _ _ _ _ hsw]
  refine wpAny_bind (wpAny_standAt (wpAny_bind ?_))
  show wpAny _ A (do let _ ← comprehension (.ListComp elt [⟨.Name x px, iter, [], 0⟩] scope pos) scope env _ (newList []) false (eval iter env) (some (assign (.Name y py) env))) _ _ _
  refine wpAny_bind (wpAny_mono (wpAny_comprehension_free (use := some (assign (.Name y py) env)) (Q := fun _ s' => wpAny (model PRG w) A (execs rest env) Q E s') rfl hs hclos hkind hnames
    (wpAny_mono h (fun xv s₁ h₁ => ?_) fun _ _ e => e)) (fun _ s' hq => wpAny_pure (wpAny_pure hq)) fun _ _ e => e)
  obtain ⟨l, oS, vs, nl, news, hp, tk, J, rfl, rfl, hh, F, N, hm, ho, hz, hj, hJ, he, hK⟩ := h₁
  refine lc_block hh hcell hkind hx F N hm ho hz hj hJ he fun D C h' tk m' ys nx F' N' o1 hn hC₀ hD₀ hCL hDL hCD offC fin => ?_
  show wpAny _ A (assign (.Name y py) env (.ref D)) _ _ _
  have hL₀ : g.get? env.locals = none := Heap.get?_none_of_le F'.above
  refine wpAny_assign_Name (wpAny_storeName_local hy F'.ns (fun h₂ hn₂ hs₂ => ?_) hp')
  have F₂ : Fr g env.locals h₂ (fun z => if z = y then some (.ref D) else m z) := ⟨hn₂, fun b o e => hs₂.extBut b o (fun q => by rw [q, hL₀] at e; cases e) (F'.keep b o e), F'.above⟩
  have N₂ : News g env.locals h₂ ((D, lst ys) :: nx) := fun p hp => ⟨hs₂.extBut _ _ (N' p hp).2.1 (N' p hp).1, (N' p hp).2⟩
  refine ⟨m', hn.sameBut hs₂ hCL, fun h'' hs'' => hK D ys nx h' tk fin F' N' o1 h'' (F₂.change hs'' hCL hC₀) fun p hp => ?_⟩
  refine ⟨hs''.extBut _ _ ?_ (N₂ p hp).1, (N₂ p hp).2⟩
  rcases List.mem_cons.mp hp with rfl | hp
  · exact Ne.symm hCD
  · exact offC p hp
end
/- names in a comprehension -/
section
variable {M : Model} {g : Heap} {L : Addr} {cl : List (Str × Addr)} {scope : Scope} {C : Addr} {A : Around} {E : Value → Shared → Prop} {env : Env} {s : Shared} {D : Addr} {I : Addr} {c : Addr} {m₂ : Str → Option Value} {oC : Obj} {oI : Obj} {oD : Obj} {o : Obj} {nx : Led} {news : Led} {x : Str} {pos : Pos} {v : Value} {Q : Value → Shared → Prop}
theorem cv_local (N : autoParam (News g L s.heap news) kA) (hC : (C, oC) ∈ news) (hns : autoParam (NsObj oC m₂) kA) (hv : autoParam (m₂ x = some v) kA) (hk : autoParam (scope.kind = .function) kR) (hx : autoParam (scope.names.lookup x = some .local) kR) (hd : autoParam ((x == ("__debug__" : Str)) = false) kK) (h : Q v s) : wpAny M A (eval (.Name x pos) (compEnvC scope cl C env)) Q E s :=
  wpAny_Name (wpAny_loadName_local (env := compEnvC scope cl C env) hk (lookup_relabel_local hx) (hns.ns (N.get hC)) hv h) hd
theorem cv_cell (N : autoParam (News g L s.heap news) kA) (hk : autoParam (scope.kind = .function) kR) (hx : autoParam ((relabel scope env).names.lookup x = some .cell) kK) (hc : autoParam (cl.lookup x = some c) kR) (hm : autoParam ((c, o) ∈ news) kM) (ho : autoParam (o.data = .cell (some v)) kA) (hd : autoParam ((x == ("__debug__" : Str)) = false) kK) (h : Q v s) : wpAny M A (eval (.Name x pos) (compEnvC scope cl C env)) Q E s :=
  wpAny_Name (wpAny_loadName_cell (env := compEnvC scope cl C env) hk hx hc ⟨o, N.get hm, ho⟩ h) hd
end
/- frames with cells -/
noncomputable def setAll (names : List Str) (loc : Str → Bool) : List (Str × Value) → List (Option Value) → List (Option Value)
  | [], vals => vals
  | (n, v) :: r, vals => setAll names loc r (if loc n = true then vals.set (names.idxOf n) (some v) else vals)
theorem setAll_len {names : List Str} {loc : Str → Bool} : ∀ {binds : List (Str × Value)} {vals : List (Option Value)}, (setAll names loc binds vals).length = vals.length
  | [], _ => rfl
  | (n, v) :: r, vals => by
    unfold setAll
    rw [setAll_len]
    split
    · rw [List.length_set]
    · rfl
theorem lkv_set' {names : List Str} {vals : List (Option Value)} {x : Str} {v : Value} (hd : names.Nodup) (hl : names.length = vals.length) (hx : x ∈ names) : (fun y => if y = x then some v else lkv names vals y) = lkv names (vals.set (names.idxOf x) (some v)) :=
  lkv_set hd hl (List.getElem?_eq_some_iff.mpr ⟨List.idxOf_lt_length_of_mem hx, List.getElem_idxOf _⟩)
theorem bindL_lkv {kindOf : Str → Option NameKind} {names : List Str} (hd : names.Nodup) : ∀ {binds : List (Str × Value)} {vals : List (Option Value)}, names.length = vals.length → (∀ p ∈ binds, kindOf p.1 = some .local → p.1 ∈ names) →
    bindL kindOf binds (lkv names vals) = lkv names (setAll names (fun n => kindOf n == some .local) binds vals)
  | [], _, _, _ => rfl
  | (n, v) :: r, vals, hl, hb => by
    unfold bindL setAll
    by_cases h : kindOf n = some .local
    · have h' : (kindOf n == some .local) = true := by rw [h]; rfl
      rw [if_pos h, if_pos h', lkv_set' hd hl (hb _ (.head _) h)]
      exact bindL_lkv hd (by rw [List.length_set]; exact hl) fun p hp => hb p (.tail _ hp)
    · have h' : ¬ (kindOf n == some .local) = true := by intro e; exact h (by simpa using e)
      rw [if_neg h, if_neg h']
      exact bindL_lkv hd hl fun p hp => hb p (.tail _ hp)
theorem lkv_none (names : List Str) (k : Nat) : (fun _ => none) = lkv names (List.replicate k none) := by
  funext y
  unfold lkv
  induction names generalizing k with
  | nil => rfl
  | cons a l ih =>
    cases k with
    | zero => rfl
    | succ k =>
      rw [List.replicate_succ, List.zip_cons_cons, List.lookup_cons]
      cases h : y == a with
      | true => rfl
      | false => exact ih k
theorem does_introC {w : World} {f : Addr} {args : List Value} {D U : Nat} {news : Led} {Post : Value → Led → Prop}
    {name qual : Str} {params : Arguments} {body : List Stmt} {scope : Scope} {dV kV doc pm cdv ct oc : Value} {an od : Option Addr} {osl : Array (Option Value)} (names : List Str) (binds : List (Str × Value)) (vals : List (Option Value)) (cl : Addr → List (Str × Addr)) (hcl : ∀ n, cellsFrom n scope.names [] = cl n)
    (ho : (heapK w.params).lookup f = some ⟨oc, od, .func (fnOf name qual params body scope dV kV doc pm an cdv ct), osl⟩) (hcd : codeIn (heapK w.params) cdv qual = true) (hD : D < 900)
    (hbind : bindArgs (fnOf name qual params body scope dV kV doc pm an cdv ct) ⟨args, []⟩ = pure binds) (hvals : setAll names (fun n => scope.names.lookup n == some .local) binds (List.replicate names.length none) = vals)
    (hin : (binds.all fun p => names.contains p.1 || !(scope.names.lookup p.1 == some .local)) = true) (hall : names.all (okL scope) = true) (hnd : decide names.Nodup = true)
    (hkinds : (binds.all fun y => scope.names.lookup y.1 == some .local || scope.names.lookup y.1 == some .cell) = true) (hndc : ((cellsFrom 0 scope.names []).map (·.1)).Nodup)
    (hco : scope.isCoroutine = false) (hgen : scope.isGenerator = false) (hk : scope.kind = .function)
    (h : ∀ (K : KK) (A₀ : Around) (base : Heap) (mean : ExcName → Option Value) (mg mb : Str → Option Value) (g : Heap) (L : Addr) (h : Heap) (gs : Array GenState) (dr : Drawn) (os : OsState) (tk : Nat) (Q : Flow → Shared → Prop) (cells : Led),
      (∀ i x, names[i]? = some x → Lv scope names x i) →
      Below A₀ base K.outer g → (heapK w.params).In g → Top viewK (looseW viewK [Str.ofString "MOST_BITS"]) mean mg mb g →
      Fr g L h (lkv names vals) → News g L h (cells ++ news) → CellsAre (bindC (fun n => scope.names.lookup n) binds fun _ => none) (cl (L + 1)) cells → (∀ p ∈ news, p.1 < L) → K.dp ≤ D + 1 → K.un ≤ U + 3 →
      (∀ fl s', Back g L gs dr os Post fl s' → Q fl s') →
      wpAny (model PySem.Challenge.rw_qz0034_01.row.prog w) (ktrK qual scope f cdv (cl (L + 1)) K L) (execs body (envX qual scope L f cdv (cl (L + 1)))) Q (fun _ _ => False) ⟨h, gs, dr, tk, os⟩) :
    Does w f args D U news Post := by
  have hnd' : names.Nodup := of_decide_eq_true hnd
  have hok : ∀ x ∈ names, okL scope x = true := List.all_eq_true.mp hall
  have hcl' : cl = fun n => cellsFrom n scope.names [] := by funext n; exact (hcl n).symm
  subst hcl'
  intro dp un gd cn cs L a ccd cl outer g m s Q E ⟨A₀, base, mean, mg, mb, B, X, T⟩ F N hcs hdp hun hret
  refine wpAny_call ?_
  refine callX_cells (A := ktrTop dp un gd cn cs L a ccd cl outer) B F N T.nolimit rfl rfl hcs ((X.keeps F.keep) _ _ ho) rfl (codeRec_of (X.keeps F.keep) hcd) (by show dp < recursionLimit; unfold recursionLimit; omega) (BindsTo.of_eq hbind) (kindsX hkinds) hndc (fun g' L' h₁ tk cells FG F' N' Y B' st lt => ?_) hco hgen hk
  have F'' : Fr g' L' h₁ (lkv names vals) := by
    have e : bindL (envOfC qual scope L' f cdv).kindOf binds (fun _ => none) = lkv names vals := by
      rw [lkv_none names names.length]
      have := bindL_lkv (kindOf := fun n => scope.names.lookup n) hnd' (binds := binds) (vals := List.replicate names.length none) (by simp) (fun p hp hl => by
        have := List.all_eq_true.mp hin p hp
        rw [Bool.or_eq_true] at this
        rcases this with h | h
        · simpa using h
        · rw [hl] at h; simp at h)
      rw [hvals] at this
      exact this
    rw [← e]; exact F'
  have := h ⟨dp + 1, un + 3, gd, envX cn cs L a ccd cl :: outer⟩ (ktrTop dp un gd cn cs L a ccd cl outer) base mean mg mb g' L' h₁ s.gens s.drawn s.os tk
    (fun fl s' => LeaveK g L m g' (fun r s' => match r with | .ok (.ret v) => Q v s' | .ok _ => False | .error e => E e s') (match fl with | .ret v => v | _ => .none) s') cells
    (fun i x hx => ⟨hok x (List.mem_of_getElem? hx), hx, hnd'⟩) B' (X.keeps fun b o e => st b o e) (T.keeps fun b o e => st b o e) F'' N' Y lt (Nat.succ_le_succ hdp) (Nat.add_le_add_right hun 3)
    (by
      rintro fl s' ⟨v, h', tk, m', news', hv, rfl, F₁, N₁, hp⟩
      exact leaveK_ F₁ N₁ fun F₂ N₂ => by cases fl <;> (subst hv; exact hret _ h' tk news' F₂ N₂ hp))
  exact wpAny_mono this (fun _ _ x => x) (fun _ _ x => x.elim)
section
variable {M : Model} {g : Heap} {L : Addr} {a : Addr} {cn : Str} {cs : Scope} {ccd : Value} {cl : List (Str × Addr)} {A : Around} {E : Value → Shared → Prop} {gs : Array GenState} {dr : Drawn} {os : OsState} {s : Shared} {c : Addr} {m : Str → Option Value} {news : Led} {x : Str} {pos : Pos} {v : Value} {o : Obj} {hp : Heap} {tk : Nat}
noncomputable def okC (cs : Scope) (x : Str) : Bool := cs.kind == .function && cs.names.lookup x == some .cell && !(x == ("__debug__" : Str))
theorem okC_is {cs : Scope} {x : Str} (h : okC cs x = true) : cs.kind = .function ∧ cs.names.lookup x = some .cell ∧ (x == ("__debug__" : Str)) = false := by
  unfold okC at h
  simp only [Bool.and_eq_true, beq_iff_eq, Bool.not_eq_true'] at h
  exact ⟨h.1.1, h.1.2, h.2⟩
theorem e_cell {Q : Value → Shared → Prop} (N : autoParam (News g L s.heap news) kA) (hx : autoParam (okC cs x = true) kK) (hc : autoParam (cl.lookup x = some c) kR) (hm : autoParam ((c, o) ∈ news) kM) (ho : autoParam (o.data = .cell (some v)) kA) (h : Q v s) : wpAny M A (eval (.Name x pos) (envX cn cs L a ccd cl)) Q E s :=
  let ⟨a1, a2, a3⟩ := okC_is hx
  nameX_C N hc hm ho h a1 a2 a3
theorem s_cell {G : Obj → Led} {v₀ : Option Value} {Q : Unit → Shared → Prop} (F : autoParam (Fr g L hp m) kA) (N : autoParam (News g L hp news) kA) (hx : autoParam (okC cs x = true) kK) (hc : autoParam (cl.lookup x = some c) kR) (U : autoParam (UpdF c o news G) kV) (ho : autoParam (o.data = .cell v₀) kA)
    (h : ∀ h' o', Fr g L h' m → News g L h' (G o') → o'.data = .cell (some v) → Q () ⟨h', gs, dr, tk, os⟩) : wpAny M A (storeName (envX cn cs L a ccd cl) x v) Q E ⟨hp, gs, dr, tk, os⟩ :=
  let ⟨a1, a2, _⟩ := okC_is hx
  storeX_C (s := ⟨hp, gs, dr, tk, os⟩) F N hc U ho h a1 a2
end
end
/- Cx -/
section
open PySem PySem.W PyProof.Rows PySem.Calls PyProof.Rows.LCg PyProof.Rows.LCt
theorem reads_bools {h : Heap} : ∀ bs : List Bool, ReadsAll h (bs.map Value.bool) (bs.map PyData.bool) []
  | [] => .nil
  | b :: r => by simpa using ReadsAll.cons (as := []) (bs := []) (Reads.bool b) (reads_bools r)
theorem has_bools : ∀ bs : List Bool, (bs.map PyData.bool).all PySem.Spec.Shape.bool.has = true
  | [] => rfl
  | b :: r => by rw [List.map_cons, List.all_cons, has_bools r]; rfl
theorem count_bools (k : Bool) : ∀ bs : List Bool, PySem.Spec.countIn (.bool k) (bs.map PyData.bool) = ((bs.count k : Nat) : Int)
  | [] => rfl
  | b :: r => by
    rw [List.map_cons, List.count_cons]
    have ih := count_bools k r
    have e : PySem.Spec.countIn (.bool k) (PyData.bool b :: r.map PyData.bool) = PySem.Spec.countIn (.bool k) (r.map PyData.bool) + (if b == k then 1 else 0) := by
      cases b <;> cases k <;> simp [PySem.Spec.countIn, PySem.Spec.same] <;> omega
    rw [e, ih]
    cases b == k <;> simp
section
variable {w : World} {g : Heap} {L : Addr} {A : Around} {E : Value → Shared → Prop} {gs : Array GenState} {dr : Drawn} {os : OsState} {l : Addr} {m : Str → Option Value} {news : Led} {o : Obj} {hp : Heap} {tk : Nat}
theorem c_count {bs : List Bool} {nl : Nat} {k : Bool} {Q : Value → Shared → Prop} (N : autoParam (News g L hp news) kA) (hm : autoParam ((l, listOf (bs.map Value.bool).toArray nl) ∈ news) kM) (h : Q (.int ((bs.count k : Nat) : Int) tk) ⟨hp, gs, dr, tk + 1, os⟩) :
    wpAny (model PRG w) A (call (.builtin "list.count") [.ref l, .bool k]) Q E ⟨hp, gs, dr, tk, os⟩ :=
  count_list_bools (s := ⟨hp, gs, dr, tk, os⟩) (Mine.News.isList N hm) (reads_bools (h := hp) bs) (has_bools bs) (by rw [count_bools]; exact h)
theorem c_instr {vs : List Value} {ys : List Str} {x : Str} {u : Tok} {n : Nat} {s : Shared} {Q : Value → Shared → Prop} (N : autoParam (News g L s.heap news) kA) (hm : autoParam ((l, tup vs n) ∈ news) kM) (hi : StrsAre vs ys) (b : Bool) (hb : autoParam (ys.any (· == x) = b) kR) (h : Q (.bool b) s) :
    wpAny (model PRG w) A (compareOp .In (.str x u) (.ref l)) Q E s := in_tuple_strs ⟨_, N.get hm, rfl, n, rfl⟩ hi (by rw [hb]; exact h)
end
/-- what each element and its test do -/
noncomputable def EltOkT (w : World) (A : Around) (g : Heap) (L : Addr) (m : Str → Option Value) (gs : Array GenState) (dr : Drawn) (os : OsState) (env : Env) (ct elt : PySem.Expr) (x : Str) (scope : Scope) (cl : List (Str × Addr)) (n : Nat) (P : Nat → Value → Prop) (J : Nat → List Value → Led → Prop) : Prop :=
  ∀ k v ys nx I oI C oC D m₂ h₁ tk₁ E', k < n → P k v → J k ys nx → NsObj oC m₂ → m₂ x = some v → Fr g L h₁ m → News g L h₁ ((I, oI) :: (C, oC) :: (D, lst ys) :: nx) → Off3 I C D nx → ((@Ne Nat I C) ∧ (@Ne Nat I D) ∧ (@Ne Nat C D)) →
    wpAny (model PRG w) A (PySem.isTrue ct (compEnvC scope cl C env) (eval ct (compEnvC scope cl C env))) (fun ok s' => if ok = true then wpAny (model PRG w) A (eval elt (compEnvC scope cl C env)) (EltEnd g L m gs dr os I oI C oC D ys (J (k + 1))) E' s'
      else ∃ h' tk' nx', s' = ⟨h', gs, dr, tk', os⟩ ∧ Fr g L h' m ∧ News g L h' ((I, oI) :: (C, oC) :: (D, lst ys) :: nx') ∧ Off3 I C D nx' ∧ J (k + 1) ys nx') E' ⟨h₁, gs, dr, tk₁, os⟩
section
variable {w : World} {g : Heap} {L : Addr} {A : Around} {E : Value → Shared → Prop} {env : Env} {gs : Array GenState} {dr : Drawn} {os : OsState} {l : Addr} {m : Str → Option Value} {hp : Heap} {tk : Nat} {news : Led} {oS : Obj}
theorem restT_of {ct elt : PySem.Expr} {x : Str} {scope : Scope} {cl : List (Str × Addr)} {n : Nat} {P : Nat → Value → Prop} {J : Nat → List Value → Led → Prop} {S : Led → Prop} (hS : ∀ k ys nx, J k ys nx → S nx) (he : EltOkT w A g L m gs dr os env ct elt x scope cl n P J) :
    ∀ (k i : Nat) (ys : List Value) (nx : Led) (h₀ : Heap) (tk₀ : Nat), i + k = n → J i ys nx → CompRestT PRG w A g L m env ct elt x scope cl ⟨h₀, gs, dr, tk₀, os⟩ S P (fun ys nx => J n ys nx) k i ys nx
  | 0, i, ys, nx, h₀, tk₀, hi, hj => by
    obtain rfl : i = n := by omega
    exact CompRestT.zero hj
  | k + 1, i, ys, nx, h₀, tk₀, hi, hj => by
    refine CompRestT.succ fun v I oI C oC D m₂ h tk E' hP hns hm F N off ne => ?_
    refine wpAny_mono (he i v ys nx I oI C oC D m₂ h tk E' (by omega) hP hj hns hm F N off ne) (fun ok s' h' => ?_) fun _ _ x => x
    by_cases hok : ok = true
    · rw [if_pos hok] at h' ⊢
      refine wpAny_mono h' (fun y s' h' => ?_) fun _ _ x => x
      obtain ⟨h₂, tk₂, nx₂, rfl, F₂, N₂, off₂, hj₂⟩ := h'
      exact ⟨h₂, tk₂, nx₂, rfl, F₂, N₂, off₂, hS _ _ _ hj₂, restT_of hS he k (i + 1) (ys ++ [y]) nx₂ h₀ tk₀ (by omega) hj₂⟩
    · rw [if_neg hok] at h' ⊢
      obtain ⟨h₂, tk₂, nx₂, rfl, F₂, N₂, off₂, hj₂⟩ := h'
      exact ⟨h₂, tk₂, nx₂, rfl, F₂, N₂, off₂, hS _ _ _ hj₂, restT_of hS he k (i + 1) ys nx₂ h₀ tk₀ (by omega) hj₂⟩
noncomputable def LcSrcT (w : World) (A : Around) (g : Heap) (L : Addr) (m : Str → Option Value) (gs : Array GenState) (dr : Drawn) (os : OsState) (env : Env) (ct elt : PySem.Expr) (x : Str) (scope : Scope) (cl : List (Str × Addr)) (K : List Value → Led → Addr → Heap → Nat → Prop) (xv : Value) (s₁ : Shared) : Prop :=
  ∃ (l : Addr) (vs : List Value) (nl : Nat) (news : Led) (hp : Heap) (tk : Nat) (J : Nat → List Value → Led → Prop), xv = .ref l ∧ s₁ = ⟨hp, gs, dr, tk, os⟩ ∧ A.handled = none ∧ Fr g L hp m ∧ News g L hp news ∧ (l, listOf vs.toArray nl) ∈ news ∧ vs.length ≤ 100000 ∧ J 0 [] news ∧ (∀ k ys nx, J k ys nx → (l, listOf vs.toArray nl) ∈ nx) ∧
    EltOkT w A g L m gs dr os env ct elt x scope cl vs.length (fun k v => vs[k]? = some v) J ∧ ∀ D ys nx h tk, J vs.length ys nx → Fr g L h m → News g L h ((D, lst ys) :: nx) → Off1 D nx → K ys nx D h tk
theorem e_lcT {ct elt iter : PySem.Expr} {x : Str} {px : Pos} {scope : Scope} {cl : List (Str × Addr)} {pos : Pos} {Q : Value → Shared → Prop} (F₀ : Fr g L hp m)
    (hclos : closureFor scope env = pure cl) (hcell : ∀ y ∈ scope.names, y.2 ≠ .cell) (hkind : scope.kind = .function)
    (hnames : ∀ y ∈ scope.names, y.2 = .local → scope.names.lookup y.1 = some .local) (hx : scope.names.lookup x = some .local) (hs : ∀ x, foldedSetIterable iter env x = pure x)
    (h : wpAny (model PRG w) A (eval iter env) (LcSrcT w A g L m gs dr os env ct elt x scope cl (fun _ _ D h tk => Q (.ref D) ⟨h, gs, dr, tk, os⟩)) E ⟨hp, gs, dr, tk, os⟩) :
    wpAny (model PRG w) A (eval (.ListComp elt [⟨.Name x px, iter, [ct], 0⟩] scope pos) env) Q E ⟨hp, gs, dr, tk, os⟩ := by
  refine ListComp_T (s := ⟨hp, gs, dr, tk, os⟩) F₀ hclos hcell hkind hnames hx (wpAny_mono h (fun xv s₁ h₁ => ?_) fun _ _ e => e) hs
  obtain ⟨l, vs, nl, news, hp, tk, J, rfl, rfl, hh, F, N, hm, hz, hj, hJ, he, hK⟩ := h₁
  refine CompSrcT.ledger hh F N hm (by rw [List.size_toArray, sizeLine_eq]; omega) fun g' => ?_
  have e : (fun (i : Nat) (v : Value) => vs.toArray[i]? = some v) = fun i v => vs[i]? = some v := by funext i v; simp
  rw [e, List.size_toArray]
  have R := restT_of (S := SrcAt g l vs.toArray) (fun k ys nx hj => .inr ⟨_, hJ _ _ _ hj, rfl, nl, rfl⟩) he vs.length 0 [] news g' tk (by omega) hj
  have key : ∀ (k i : Nat) (ys : List Value) (nx : Led), CompRestT PRG w A g L m env ct elt x scope cl ⟨g', gs, dr, tk, os⟩ (SrcAt g l vs.toArray) (fun i v => vs[i]? = some v) (fun ys nx => J vs.length ys nx) k i ys nx →
      CompRestT PRG w A g L m env ct elt x scope cl ⟨g', gs, dr, tk, os⟩ (SrcAt g l vs.toArray) (fun i v => vs[i]? = some v) (FinE g L m ⟨g', gs, dr, tk, os⟩ Q) k i ys nx := by
    intro k
    induction k with
    | zero => intro i ys nx hR D h tk F N o1; exact hK D ys nx h tk hR F N o1
    | succ k ih =>
      intro i ys nx hR
      refine CompRestT.succ fun v I oI C oC D m₂ h tk E' hP hns hm F N off ne => ?_
      refine wpAny_mono (hR v I oI C oC D m₂ h tk E' hP hns hm F N off ne) (fun ok s' h' => ?_) fun _ _ x => x
      by_cases hok : ok = true
      · rw [if_pos hok] at h' ⊢
        refine wpAny_mono h' (fun y s' h' => ?_) fun _ _ x => x
        obtain ⟨h₂, tk₂, nx₂, e1, F₂, N₂, off₂, hs₂, hr₂⟩ := h'
        exact ⟨h₂, tk₂, nx₂, e1, F₂, N₂, off₂, hs₂, ih _ _ _ hr₂⟩
      · rw [if_neg hok] at h' ⊢
        obtain ⟨h₂, tk₂, nx₂, e1, F₂, N₂, off₂, hs₂, hr₂⟩ := h'
        exact ⟨h₂, tk₂, nx₂, e1, F₂, N₂, off₂, hs₂, ih _ _ _ hr₂⟩
  exact key _ _ _ _ R
end
/- a built-in kind's method of what a cell holds, in a comprehension -/
section
variable {w : World} {g : Heap} {L : Addr} {cl : List (Str × Addr)} {scope : Scope} {C : Addr} {A : Around} {E : Value → Shared → Prop} {env : Env} {s : Shared} {c : Addr} {l : Addr} {o : Obj} {news : Led} {x : Str}
theorem cv_meth {meth : Str} {id : String} {xp ap pos : Pos} {e : PySem.Expr} {Q : Value → Shared → Prop} (N : News g L s.heap news) (hk : scope.kind = .function) (hx : (relabel scope env).names.lookup x = some .cell) (hc : cl.lookup x = some c) (hm : (c, o) ∈ news) (ho : o.data = .cell (some (.ref l))) (hd : (x == ("__debug__" : Str)) = false)
    (hn : nst e = true) (hp : (ap.endLine == pos.line) = true)
    (hg : ∀ (pl : Sem Bool) (R : Value × List Value → Shared → Prop), R (.builtin id, [.ref l]) s → wpAny (model PRG w) A (getMethod (.ref l) meth pl) R E s)
    (h : wpAny (model PRG w) A (eval e (compEnvC scope cl C env)) (fun v s₁ => wpAny (model PRG w) A (call (.builtin id) [.ref l, v]) Q E s₁) E s) :
    wpAny (model PRG w) A (eval (.Call (.Attribute (.Name x xp) meth ap) [e] [] pos) (compEnvC scope cl C env)) Q E s := by
  refine MethodCall_ (pl := _) (cv_cell N hk hx hc hm ho hd (hg _ _ ?_)) (ev_mcall base_name (by simp [hn]) rfl hp)
  refine callWith_method1 (wpArgs_spliced (by simp [hn]) ?_) (star_nst hn) rfl
  exact h
end
end
/- Cy -/
section
open PySem PySem.W PyProof.Rows PySem.Calls PyProof.Rows.LCg PyProof.Rows.LCt
theorem take_get {α : Type} {l : List α} {k : Nat} {x : α} (h : l[k]? = some x) : l.take (k + 1) = l.take k ++ [x] := by
  rw [List.take_add_one, h]; rfl
/-- an element is read, nothing is changed -/
noncomputable def Reads1 (g : Heap) (L : Addr) (m : Str → Option Value) (gs : Array GenState) (dr : Drawn) (os : OsState) (led : Led) (y u : Value) (s' : Shared) : Prop :=
  u = y ∧ ∃ h' tk', s' = ⟨h', gs, dr, tk', os⟩ ∧ Fr g L h' m ∧ News g L h' led
section
variable {w : World} {g : Heap} {L : Addr} {A : Around} {E : Value → Shared → Prop} {env : Env} {gs : Array GenState} {dr : Drawn} {os : OsState} {l : Addr} {m : Str → Option Value} {hp : Heap} {tk : Nat} {news : Led} {oS : Obj}
theorem reads1 {led : Led} {y : Value} (F : Fr g L hp m) (N : News g L hp led) : Reads1 g L m gs dr os led y y ⟨hp, gs, dr, tk, os⟩ := ⟨rfl, hp, tk, rfl, F, N⟩
theorem lc_pure {elt : PySem.Expr} {x : Str} {scope : Scope} {cl : List (Str × Addr)} {vs ws : List Value} {nl : Nat} {K : List Value → Led → Addr → Heap → Nat → Prop} (hh : A.handled = none) (F : Fr g L hp m) (N : News g L hp news) (hm : (l, oS) ∈ news) (ho : oS = listOf vs.toArray nl ∨ oS = tup vs nl) (hz : vs.length ≤ 100000) (hlen : ws.length = vs.length)
    (he : ∀ k v y I oI C oC D m₂ h₁ tk₁ E', vs[k]? = some v → ws[k]? = some y → NsObj oC m₂ → m₂ x = some v → Fr g L h₁ m → News g L h₁ ((I, oI) :: (C, oC) :: (D, lst (ws.take k)) :: news) →
      wpAny (model PRG w) A (eval elt (compEnvC scope cl C env)) (Reads1 g L m gs dr os ((I, oI) :: (C, oC) :: (D, lst (ws.take k)) :: news) y) E' ⟨h₁, gs, dr, tk₁, os⟩)
    (hK : ∀ D h tk, Fr g L h m → News g L h ((D, lst ws) :: news) → Off1 D news → K ws news D h tk) : LcSrc w A g L m gs dr os env elt x scope cl K (.ref l) ⟨hp, gs, dr, tk, os⟩ := by
  refine ⟨l, oS, vs, nl, news, hp, tk, fun k ys nx => nx = news ∧ ys = ws.take k, rfl, rfl, hh, F, N, hm, ho, hz, ⟨rfl, by simp⟩, (fun k ys nx h => by rw [h.1]; exact hm), ?_, ?_⟩
  · rintro k v ys nx I oI C oC D m₂ h₁ tk₁ E' hk hP ⟨rfl, rfl⟩ hns hv F₁ N₁ off ne
    have hy : ws[k]? = some (ws[k]'(by omega)) := List.getElem?_eq_getElem (by omega)
    refine wpAny_mono (he k v _ I oI C oC D m₂ h₁ tk₁ E' hP hy hns hv F₁ N₁) (fun u s' h' => ?_) fun _ _ x => x
    obtain ⟨rfl, h', tk', rfl, F', N'⟩ := h'
    exact ⟨h', tk', nx, rfl, F', N', off, rfl, (take_get hy).symm⟩
  · rintro D ys nx h tk ⟨rfl, rfl⟩ F₁ N₁ o1
    rw [← hlen, List.take_length] at N₁ ⊢
    exact hK D h tk F₁ N₁ o1
/-- with a test -/
theorem lcT_pure {ct elt : PySem.Expr} {x : Str} {scope : Scope} {cl : List (Str × Addr)} {vs : List Value} {pz : Nat → Bool} {Y : Nat → List Value} {nl : Nat} {K : List Value → Led → Addr → Heap → Nat → Prop} (hh : A.handled = none) (F : Fr g L hp m) (N : News g L hp news) (hm : (l, listOf vs.toArray nl) ∈ news) (hz : vs.length ≤ 100000) (hY0 : Y 0 = [])
    (hY : ∀ k v, vs[k]? = some v → Y (k + 1) = if pz k = true then Y k ++ [v] else Y k)
    (ht : ∀ k v I oI C oC D m₂ h₁ tk₁ E', vs[k]? = some v → NsObj oC m₂ → m₂ x = some v → Fr g L h₁ m → News g L h₁ ((I, oI) :: (C, oC) :: (D, lst (Y k)) :: news) →
      wpAny (model PRG w) A (PySem.isTrue ct (compEnvC scope cl C env) (eval ct (compEnvC scope cl C env))) (fun ok s' => ok = pz k ∧ ∃ h' tk', s' = ⟨h', gs, dr, tk', os⟩ ∧ Fr g L h' m ∧ News g L h' ((I, oI) :: (C, oC) :: (D, lst (Y k)) :: news)) E' ⟨h₁, gs, dr, tk₁, os⟩)
    (he : ∀ k v I oI C oC D m₂ h₁ tk₁ E', vs[k]? = some v → NsObj oC m₂ → m₂ x = some v → Fr g L h₁ m → News g L h₁ ((I, oI) :: (C, oC) :: (D, lst (Y k)) :: news) →
      wpAny (model PRG w) A (eval elt (compEnvC scope cl C env)) (Reads1 g L m gs dr os ((I, oI) :: (C, oC) :: (D, lst (Y k)) :: news) v) E' ⟨h₁, gs, dr, tk₁, os⟩)
    (hK : ∀ D h tk, Fr g L h m → News g L h ((D, lst (Y vs.length)) :: news) → Off1 D news → K (Y vs.length) news D h tk) : LcSrcT w A g L m gs dr os env ct elt x scope cl K (.ref l) ⟨hp, gs, dr, tk, os⟩ := by
  refine ⟨l, vs, nl, news, hp, tk, fun k ys nx => nx = news ∧ ys = Y k, rfl, rfl, hh, F, N, hm, hz, ⟨rfl, hY0.symm⟩, (fun k ys nx h => by rw [h.1]; exact hm), ?_, ?_⟩
  · rintro k v ys nx I oI C oC D m₂ h₁ tk₁ E' hk hP ⟨rfl, rfl⟩ hns hv F₁ N₁ off ne
    refine wpAny_mono (ht k v I oI C oC D m₂ h₁ tk₁ E' hP hns hv F₁ N₁) (fun ok s' h' => ?_) fun _ _ x => x
    obtain ⟨rfl, h', tk', rfl, F', N'⟩ := h'
    have e := hY k v hP
    by_cases hp : pz k = true
    · rw [if_pos hp] at e ⊢
      have hns' : News g L h' ((I, oI) :: (C, oC) :: (D, lst (Y k)) :: nx) := N'
      refine wpAny_mono (he k v I oI C oC D m₂ h' tk' E' hP hns hv F' N') (fun u s' h' => ?_) fun _ _ x => x
      obtain ⟨rfl, h', tk', rfl, F', N'⟩ := h'
      exact ⟨h', tk', nx, rfl, F', N', off, rfl, e.symm⟩
    · rw [if_neg hp] at e ⊢
      exact ⟨h', tk', nx, rfl, F', N', off, rfl, e.symm⟩
  · rintro D ys nx h tk ⟨rfl, rfl⟩ F₁ N₁ o1
    exact hK D h tk F₁ N₁ o1
end
/-- what is counted once -/
noncomputable def once (bs : List Bool) (k : Nat) : List Value := ((bs.take k).filter fun b => decide (bs.count b = 1)).map Value.bool
theorem once_step {bs : List Bool} {k : Nat} {b : Bool} (h : bs[k]? = some b) : once bs (k + 1) = if decide (bs.count b = 1) = true then once bs k ++ [Value.bool b] else once bs k := by
  unfold once
  rw [take_get h, List.filter_append, List.map_append]
  by_cases hb : decide (bs.count b = 1) = true
  · rw [if_pos hb, List.filter_cons_of_pos (p := fun b => decide (bs.count b = 1)) hb]; rfl
  · rw [if_neg hb, List.filter_cons_of_neg (p := fun b => decide (bs.count b = 1)) hb]; simp
theorem once2 (x y : Bool) : (once [x, y] 2).length = 2 ↔ (x != y) = true := by cases x <;> cases y <;> decide
theorem once3 (x y z : Bool) : (once [x, y, z] 3).length ≠ 3 := by cases x <;> cases y <;> cases z <;> decide
theorem once_end2 (f : Nat → Bool) (x y : Int) : (((once (List.map (fun x : Int => f x.toNat) [x, y]) (List.map Value.bool (List.map (fun x : Int => f x.toNat) [x, y])).length).toArray.size : Int) == ((List.map Value.bool (List.map (fun x : Int => f x.toNat) [x, y])).toArray.size : Int)) = (f x.toNat != f y.toNat) := by
  show (((once [f x.toNat, f y.toNat] 2).toArray.size : Int) == 2) = _
  cases f x.toNat <;> cases f y.toNat <;> rfl
theorem once_end3 (f : Nat → Bool) (x y z : Int) : (((once (List.map (fun x : Int => f x.toNat) [x, y, z]) (List.map Value.bool (List.map (fun x : Int => f x.toNat) [x, y, z])).length).toArray.size : Int) == ((List.map Value.bool (List.map (fun x : Int => f x.toNat) [x, y, z])).toArray.size : Int)) = false := by
  show (((once [f x.toNat, f y.toNat, f z.toNat] 3).toArray.size : Int) == 3) = _
  cases f x.toNat <;> cases f y.toNat <;> cases f z.toNat <;> rfl
end
/- Ex -/
section
open PySem PySem.W PyProof.Rows PySem.Calls PyProof.Rows.LCg PyProof.Rows.LCt
section
variable {w : World} {g : Heap} {L : Addr} {A : Around} {E : Value → Shared → Prop} {gs : Array GenState} {dr : Drawn} {os : OsState} {l : Addr} {m : Str → Option Value} {news : Led} {hp : Heap} {tk : Nat}
theorem c_tupl {vs : List Value} {n : Nat} {Q : Value → Shared → Prop} (F : autoParam (Fr g L hp m) kA) (N : autoParam (News g L hp news) kA) (hm : autoParam ((l, listOf vs.toArray n) ∈ news) kM) (hz : vs.length ≤ 100000)
    (h : ∀ D h', Fr g L h' m → News g L h' ((D, tup vs 0) :: news) → AllLt D news → Q (.ref D) ⟨h', gs, dr, tk, os⟩) : wpAny (model PRG w) A (call (.type "tuple") [.ref l]) Q E ⟨hp, gs, dr, tk, os⟩ := by
  refine call_tuple_list (s := ⟨hp, gs, dr, tk, os⟩) (Mine.News.isList N hm) (fun h' hk => ?_) (by rw [List.size_toArray, sizeLine_eq]; omega)
  have F' := F.keeps hk
  have N' := N.grown hk
  exact h _ _ (F'.push _) (News.push F' N' _) (allLt_of fun p hp => Heap.lt_size (N' p hp).1)
/-- a comprehension bound to a local name: its place -/
theorem x_lcL {elt iter : PySem.Expr} {x y : Str} {px py : Pos} {scope cs : Scope} {cn : Str} {a : Addr} {ccd : Value} {cl cl2 : List (Str × Addr)} {names : List Str} {vals : List (Option Value)} {i : Nat} {pos spos : Pos} {rest : List Stmt} {Q : Flow → Shared → Prop} (F₀ : Fr g L hp (lkv names vals)) (hl : Lv cs names y i) (hn : names.length = vals.length)
    (hsw : swapsWith (.ListComp elt [⟨.Name x px, iter, [], 0⟩] scope pos) (some (.Name y py)) spos.line (envX cn cs L a ccd cl2) = pure true)
    (hclos : closureFor scope (envX cn cs L a ccd cl2) = pure cl) (hcell : ∀ z ∈ scope.names, z.2 ≠ .cell) (hkind : scope.kind = .function)
    (hnames : ∀ z ∈ scope.names, z.2 = .local → scope.names.lookup z.1 = some .local) (hx : scope.names.lookup x = some .local) (hs : ∀ x, foldedSetIterable iter (envX cn cs L a ccd cl2) x = pure x)
    (h : wpAny (model PRG w) A (eval iter (envX cn cs L a ccd cl2)) (LcSrc w A g L (lkv names vals) gs dr os (envX cn cs L a ccd cl2) elt x scope cl (fun ys nx D h tk => ∀ h', Fr g L h' (lkv names (vals.set i (some (.ref D)))) → News g L h' ((D, lst ys) :: nx) → wpAny (model PRG w) A (execs rest (envX cn cs L a ccd cl2)) Q E ⟨h', gs, dr, tk + 1, os⟩)) E ⟨hp, gs, dr, tk, os⟩) :
    wpAny (model PRG w) A (execs (.Assign [.Name y py] (.ListComp elt [⟨.Name x px, iter, [], 0⟩] scope pos) spos :: rest) (envX cn cs L a ccd cl2)) Q E ⟨hp, gs, dr, tk, os⟩ := by
  obtain ⟨a1, a2, _⟩ := okL_is hl.ok
  refine x_lc (g := g) (L := L) (m := lkv names vals) rfl hsw hclos hcell hkind hnames hx a2 (by show (cs.kind == .class || (cs.kind == .module && L != mainGlobals)) = false; rw [a1]; rfl) hs (wpAny_mono h (fun xv s₁ h₁ => ?_) fun _ _ e => e)
  obtain ⟨l, oS, vs, nl, news, hp, tk, J, e1, e2, hh, F, N, hm, ho, hz, hj, hJ, he, hK⟩ := h₁
  refine ⟨l, oS, vs, nl, news, hp, tk, J, e1, e2, hh, F, N, hm, ho, hz, hj, hJ, he, fun D ys nx h tk fin F' N' o1 h' F₂ N₂ => hK D ys nx h tk fin F' N' o1 h' ?_ N₂⟩
  rw [← lkv_set hl.nd hn hl.at_]; exact F₂
end
theorem valueAt_stored (kvs : List (Int × Value)) (k c : Int) (v : Value) : valueAt (stored kvs k v) c = if c = k then some v else valueAt kvs c := by
  unfold stored
  split
  · rename_i h
    unfold valueAt
    induction kvs with
    | nil => simp at h
    | cons p r ih =>
      rw [List.map_cons]
      by_cases hp : p.1 = k
      · rw [if_pos hp]
        by_cases hc : c = k
        · rw [if_pos hc, List.find?_cons_of_pos (p := fun kv : Int × Value => decide (kv.1 = c)) (by simp [hp, hc])]; rfl
        · rw [if_neg hc]
          have h1 : ¬ decide ((p.1, v).1 = c) = true := by simp only [decide_eq_true_eq]; intro e; exact hc (e.symm.trans hp)
          have h2 : ¬ decide (p.1 = c) = true := by simp only [decide_eq_true_eq]; intro e; exact hc (e.symm.trans hp)
          rw [List.find?_cons_of_neg (p := fun kv : Int × Value => decide (kv.1 = c)) h1, List.find?_cons_of_neg (p := fun kv : Int × Value => decide (kv.1 = c)) h2]
          by_cases hr : (r.any fun kv => decide (kv.1 = k)) = true
          · have := ih hr
            rw [if_neg hc] at this; exact this
          · have e : r.map (fun kv => if kv.1 = k then (kv.1, v) else kv) = r := by
              have : ∀ q ∈ r, (if q.1 = k then (q.1, v) else q) = q := fun q hq => by
                rw [if_neg]; intro e; exact hr (List.any_eq_true.mpr ⟨q, hq, by simpa using e⟩)
              exact (List.map_congr_left this).trans (List.map_id _)
            rw [e]
      · rw [if_neg hp]
        have hr : (r.any fun kv => decide (kv.1 = k)) = true := by
          rw [List.any_cons] at h
          have h2 : decide (p.1 = k) = false := by simpa using hp
          rw [h2, Bool.false_or] at h; exact h
        by_cases hc : p.1 = c
        · have hck : c ≠ k := fun e => hp (hc.trans e)
          rw [if_neg hck, List.find?_cons_of_pos (p := fun kv : Int × Value => decide (kv.1 = c)) (by simp [hc]), List.find?_cons_of_pos (p := fun kv : Int × Value => decide (kv.1 = c)) (by simp [hc])]
        · rw [List.find?_cons_of_neg (p := fun kv : Int × Value => decide (kv.1 = c)) (by simp [hc]), List.find?_cons_of_neg (p := fun kv : Int × Value => decide (kv.1 = c)) (by simp [hc])]
          exact ih hr
  · rename_i h
    unfold valueAt
    rw [List.find?_append]
    by_cases hc : c = k
    · rw [if_pos hc]
      have : kvs.find? (fun kv => decide (kv.1 = c)) = none := by
        rw [List.find?_eq_none]
        intro p hp e
        exact h (List.any_eq_true.mpr ⟨p, hp, by rw [← hc]; exact e⟩)
      rw [this]; simp [hc]
    · rw [if_neg hc]
      have : [(k, v)].find? (fun kv => decide (kv.1 = c)) = none := by
        rw [List.find?_cons_of_neg (p := fun kv : Int × Value => decide (kv.1 = c)) (by simp; exact fun e => hc e.symm)]; rfl
      rw [this, Option.or_none]
/-- the values known -/
structure Kn (V : Nat → Value → Prop) (kvs : List (Int × Value)) (S : List Nat) (n : Nat) : Prop where
  at_ : ∀ c ∈ S, ∃ v, valueAt kvs (c : Int) = some v ∧ V c v
  len : kvs.length ≤ n
theorem Kn.nil {V : Nat → Value → Prop} : Kn V [] [] 0 := ⟨by simp, by simp⟩
theorem Kn.add {V : Nat → Value → Prop} {kvs : List (Int × Value)} {S : List Nat} {n x : Nat} {v : Value} (h : Kn V kvs S n) (hv : V x v) : Kn V (stored kvs (x : Int) v) (S ++ [x]) (n + 1) := by
  refine ⟨fun c hc => ?_, Nat.le_trans (stored_length_le _ _ _) (Nat.succ_le_succ h.len)⟩
  rw [valueAt_stored]
  by_cases e : (c : Int) = (x : Int)
  · rw [if_pos e]
    obtain rfl : c = x := by omega
    exact ⟨v, rfl, hv⟩
  · rw [if_neg e]
    rcases List.mem_append.mp hc with hc | hc
    · exact h.at_ c hc
    · exact absurd (by rw [List.mem_singleton.mp hc]) e
theorem off1_mem {D : Addr} : ∀ {l : Led}, LCg.Off1 D l → ∀ p ∈ l, p.1 ≠ D
  | [], _, _, h => nomatch h
  | _ :: _, x, p, h => by
    rcases List.mem_cons.mp h with rfl | h
    · exact x.1
    · exact off1_mem x.2 p h
theorem nv_irrel {ρ ρ' f : Nat → Bool} {n : Nat} {k : Key} (h : NodeOk n k) (ha : k.1 ≠ Str.ofString "app") : nv ρ f k = nv ρ' f k := by
  cases h with
  | app d => exact absurd rfl ha
  | _ => rfl
end
/- Wr -/
section
open PySem PySem.W PyProof.Rows PySem.Calls PyProof.Rows.LCg PyProof.Rows.LCt
section
variable {w : World} {mean : ExcName → Option Value} {mg : Str → Option Value} {mb : Str → Option Value} {g : Heap} {L : Addr} {cl : List (Str × Addr)} {scope : Scope} {C : Addr} {A : Around} {E : Value → Shared → Prop} {env : Env} {s : Shared} {c : Addr} {m : Str → Option Value} {x : Str} {news : Led} {o : Obj}
/- global names in a comprehension -/
theorem cv_glob {pos : Pos} {v : Value} {Q : Value → Shared → Prop} (hg : env.globals = mainGlobals) (F : Fr g L s.heap m) (X : (heapK w.params).In g) (T : Top viewK (looseW viewK [Str.ofString "MOST_BITS"]) mean mg mb g)
    (hk : scope.kind = .function) (hx : (relabel scope env).names.lookup x = some .globalImplicit) (hd' : (x == ("__debug__" : Str)) = false) (e : GlobOk (heapK w.params) x v) (h : Q v s) : wpAny (model PRG w) A (eval (.Name x pos) (compEnvC scope cl C env)) Q E s :=
  Name_function_global (env := compEnvC scope cl C env) hk hx (loadGlobal_global (env := compEnvC scope cl C env) (by show s.heap.Ns env.globals mg; rw [hg]; exact (topRead_of T).g.keeps F.keep) (mg_of X (topRead_of T).g e) h) hd'
theorem cv_globI {pos : Pos} {i : Int} {Q : Value → Shared → Prop} (hg : autoParam (env.globals = mainGlobals) kR) (F : autoParam (Fr g L s.heap m) kA) (X : autoParam ((heapK w.params).In g) kA) (T : autoParam (Top viewK (looseW viewK [Str.ofString "MOST_BITS"]) mean mg mb g) kA)
    (hk : autoParam (scope.kind = .function) kR) (hx : autoParam ((relabel scope env).names.lookup x = some .globalImplicit) kK) (hd' : autoParam ((x == ("__debug__" : Str)) = false) kK) (e : ∃ t, GlobOk (heapK w.params) x (.int i t)) (h : ∀ t, Q (.int i t) s) : wpAny (model PRG w) A (eval (.Name x pos) (compEnvC scope cl C env)) Q E s := by
  obtain ⟨t, e⟩ := e
  exact cv_glob hg F X T hk hx hd' e (h t)
theorem cv_gcall {fp pos : Pos} {args : List PySem.Expr} {f : Addr} {Q : Value → Shared → Prop} (hg : autoParam (env.globals = mainGlobals) kR) (F : autoParam (Fr g L s.heap m) kA) (X : autoParam ((heapK w.params).In g) kA) (T : autoParam (Top viewK (looseW viewK [Str.ofString "MOST_BITS"]) mean mg mb g) kA)
    (hk : autoParam (scope.kind = .function) kR) (hx : autoParam ((relabel scope env).names.lookup x = some .globalImplicit) kK) (hd' : autoParam ((x == ("__debug__" : Str)) = false) kK) (hf : FunOk (heapK w.params) x f) (hn : autoParam (args.all nst = true) kR) (he : autoParam (args.isEmpty = false) kR)
    (h : wpArgs (model PRG w) A E (compEnvC scope cl C env) args (fun vs s₁ => (heapK w.params).In s₁.heap ∧ wpAny (model PRG w) A (call (.ref f) vs) Q E s₁) s) :
    wpAny (model PRG w) A (eval (.Call (.Name x fp) args [] pos) (compEnvC scope cl C env)) Q E s := by
  obtain ⟨k1, k2⟩ := hf
  refine Call_ (cv_glob hg F X T hk hx hd' k1 ?_) (by with_unfolding_all rfl)
  cases args with
  | nil => cases he
  | cons e r =>
    refine callWith_K X k2 (wpArgs_spliced hn ?_) ?_ ?_
    · exact h
    · simp only [List.all_cons, Bool.and_eq_true] at hn; exact star_nst hn.1
    · simp only [List.all_cons, Bool.and_eq_true] at hn; exact any_nst hn.2
/- a method of an object that a cell holds, in a comprehension -/
theorem cv_mcall {meth : Str} {xp ap pos : Pos} {args : List PySem.Expr} {f b d C' : Addr} {es : List DictEntry} {n : Nat} {Q : Value → Shared → Prop} (F : autoParam (Fr g L s.heap m) kA) (N : autoParam (News g L s.heap news) kA) (X : autoParam ((heapK w.params).In g) kA)
    (hk : autoParam (scope.kind = .function) kR) (hx : autoParam ((relabel scope env).names.lookup x = some .cell) kK) (hc : autoParam (cl.lookup x = some c) kR) (hm : autoParam ((c, o) ∈ news) kM) (ho : autoParam (o.data = .cell (some (.ref b))) kA) (hd' : autoParam ((x == ("__debug__" : Str)) = false) kK)
    (hb : autoParam ((b, instObj C' d) ∈ news) kM) (hdd : autoParam ((d, dictOf es n) ∈ news) kM) (ha : autoParam (getL meth es = some none) kA) (hk' : MethOk (heapK w.params) C' meth f) (hn : autoParam (args.all nst = true) kR) (he : autoParam (args.isEmpty = false) kR) (hlen : autoParam (decide (args.length < 30) = true) kR) (hp : autoParam ((ap.endLine == pos.line) = true) kR)
    (h : wpArgs (model PRG w) A E (compEnvC scope cl C env) args (fun vs s₁ => (heapK w.params).In s₁.heap ∧ wpAny (model PRG w) A (call (.ref f) (.ref b :: vs)) Q E s₁) s) :
    wpAny (model PRG w) A (eval (.Call (.Attribute (.Name x xp) meth ap) args [] pos) (compEnvC scope cl C env)) Q E s := by
  obtain ⟨k1, k2, k3, k4⟩ := hk'
  refine MethodCall_ (pl := _) (cv_cell N hk hx hc hm ho hd' (method_inst F X (InstAt.of_news N hb hdd) k1 k2 k3 ha ?_)) (ev_mcall base_name hn hlen hp)
  cases args with
  | nil => cases he
  | cons e r =>
    refine callWith_K X k4 (wpArgs_spliced hn ?_) ?_ ?_
    · exact h
    · simp only [List.all_cons, Bool.and_eq_true] at hn; exact star_nst hn.1
    · simp only [List.all_cons, Bool.and_eq_true] at hn; exact any_nst hn.2
end
section
variable {w : World} {g : Heap} {L : Addr} {A : Around} {E : Value → Shared → Prop} {env : Env} {gs : Array GenState} {dr : Drawn} {os : OsState} {l : Addr} {m : Str → Option Value} {hp : Heap} {tk : Nat} {news : Led} {oS : Obj}
theorem CompRest.fin {elt : PySem.Expr} {x : Str} {scope : Scope} {cl : List (Str × Addr)} {s : Shared} {S : Led → Prop} {P : Nat → Value → Prop} {Fin Fin' : List Value → Led → Prop} (hF : ∀ ys nx, Fin ys nx → Fin' ys nx) :
    ∀ (k i : Nat) (ys : List Value) (nx : Led), CompRest PRG w A g L m env elt x scope cl s S P Fin k i ys nx → CompRest PRG w A g L m env elt x scope cl s S P Fin' k i ys nx
  | 0, _, _, _, h => hF _ _ h
  | k + 1, i, ys, nx, h => by
    refine CompRest.succ fun v I oI C oC D m₂ h₁ tk E' hP hns hm F N off ne => ?_
    refine wpAny_mono (h v I oI C oC D m₂ h₁ tk E' hP hns hm F N off ne) (fun y s' h' => ?_) fun _ _ x => x
    obtain ⟨h₂, tk₂, nx₂, e1, F₂, N₂, off₂, hs₂, hr₂⟩ := h'
    exact ⟨h₂, tk₂, nx₂, e1, F₂, N₂, off₂, hs₂, CompRest.fin hF k (i + 1) _ _ hr₂⟩
/-- a range as a source -/
noncomputable def LcSrcR (w : World) (A : Around) (g : Heap) (L : Addr) (m : Str → Option Value) (gs : Array GenState) (dr : Drawn) (os : OsState) (env : Env) (elt : PySem.Expr) (x : Str) (scope : Scope) (cl : List (Str × Addr)) (K : List Value → Led → Addr → Prop) (xv : Value) (s₁ : Shared) : Prop :=
  ∃ (r : Addr) (n : Nat) (t u v : Tok) (news : Led) (hp : Heap) (tk : Nat) (J : Nat → List Value → Led → Prop), xv = .ref r ∧ s₁ = ⟨hp, gs, dr, tk, os⟩ ∧ A.handled = none ∧ Fr g L hp m ∧ News g L hp news ∧ IsRange hp r 0 n 1 t u v ∧ n ≤ 1000 ∧ J 0 [] news ∧
    EltOk w A g L m gs dr os env elt x scope cl n (fun i v => ∃ t, v = .int (0 + (i : Int)) t) J ∧ ∀ D ys nx, J n ys nx → Off1 D nx → K ys nx D
theorem fitsLong_of {x : Int} (h0 : 0 ≤ x) (h1 : x ≤ 2000) : Builtin.Range.rangeFitsLong x = true := by
  unfold Builtin.Range.rangeFitsLong
  rw [Bool.and_eq_true]; exact ⟨decide_eq_true (by omega), decide_eq_true (by omega)⟩
theorem range_small {n : Nat} (h : n ≤ 1000) : Builtin.Range.small 0 (n : Int) 1 = true := by
  unfold Builtin.Range.small
  rw [rangeSize_nat, if_pos (by decide), fitsLong_of (by omega) (by omega), fitsLong_of (by omega) (by omega), fitsLong_of (by omega) (by omega), fitsLong_of (by omega) (by omega), fitsLong_of (by omega) (by omega), Bool.or_true]; rfl
/-- a comprehension over a range, bound to a local name -/
theorem x_lcR {elt iter : PySem.Expr} {x y : Str} {px py : Pos} {scope cs : Scope} {cn : Str} {a : Addr} {ccd : Value} {cl cl2 : List (Str × Addr)} {names : List Str} {vals : List (Option Value)} {i : Nat} {pos spos : Pos} {rest : List Stmt} {Q : Flow → Shared → Prop} (F₀ : Fr g L hp (lkv names vals)) (hl : Lv cs names y i) (hn : names.length = vals.length)
    (hsw : swapsWith (.ListComp elt [⟨.Name x px, iter, [], 0⟩] scope pos) (some (.Name y py)) spos.line (envX cn cs L a ccd cl2) = pure true)
    (hclos : closureFor scope (envX cn cs L a ccd cl2) = pure cl) (hcell : ∀ z ∈ scope.names, z.2 ≠ .cell) (hkind : scope.kind = .function)
    (hnames : ∀ z ∈ scope.names, z.2 = .local → scope.names.lookup z.1 = some .local) (hx : scope.names.lookup x = some .local) (hs : ∀ x, foldedSetIterable iter (envX cn cs L a ccd cl2) x = pure x)
    (h : wpAny (model PRG w) A (eval iter (envX cn cs L a ccd cl2)) (LcSrcR w A g L (lkv names vals) gs dr os (envX cn cs L a ccd cl2) elt x scope cl (fun ys nx D => ∀ h' tk', Fr g L h' (lkv names (vals.set i (some (.ref D)))) → News g L h' ((D, lst ys) :: nx) → wpAny (model PRG w) A (execs rest (envX cn cs L a ccd cl2)) Q E ⟨h', gs, dr, tk', os⟩)) E ⟨hp, gs, dr, tk, os⟩) :
    wpAny (model PRG w) A (execs (.Assign [.Name y py] (.ListComp elt [⟨.Name x px, iter, [], 0⟩] scope pos) spos :: rest) (envX cn cs L a ccd cl2)) Q E ⟨hp, gs, dr, tk, os⟩ := by
  obtain ⟨a1, a2, _⟩ := okL_is hl.ok
  refine wpAny_execs_cons (wpAny_mono (Assign_ListComp_U (s := ⟨hp, gs, dr, tk, os⟩) (L := L) (Q := thn (model PRG w) A E (envX cn cs L a ccd cl2) rest Q) F₀ rfl hsw hclos hcell hkind hnames hx a2 (by show (cs.kind == .class || (cs.kind == .module && L != mainGlobals)) = false; rw [a1]; rfl) (wpAny_mono h (fun xv s₁ h₁ => ?_) fun _ _ e => e) hs) (fun f s' h => by cases f <;> exact h) fun _ _ e => e)
  obtain ⟨r, n, t, u, v, news, hp, tk, J, rfl, rfl, hh, F, N, hr, hz, hj, he, hK⟩ := h₁
  refine CompSrc.range hh F N hr (range_small hz) (by rw [rangeSize_nat, Int.sub_zero, Int.toNat_natCast]) (by rw [sizeLine_eq]; omega) fun g' => ?_
  refine CompRest.fin (fun ys nx hJ => ?_) n 0 [] news (rest_of (S := fun _ => True) (fun _ _ _ _ => trivial) he n 0 [] news g' tk (by omega) hj)
  intro D h tk F₂ N₂ o1
  rw [lkv_set hl.nd hn hl.at_] at F₂
  exact hK D ys nx hJ o1 h tk F₂ N₂
end
section
variable {w : World} {g : Heap} {L : Addr} {A : Around} {E : Value → Shared → Prop} {env : Env} {gs : Array GenState} {dr : Drawn} {os : OsState} {d : Addr} {l : Addr} {m : Str → Option Value} {hp : Heap} {tk : Nat} {news : Led} {o : Obj}
/- dicts by strs -/
theorem e_dstr {keys : List (Option PySem.Expr)} {values : List PySem.Expr} {pos : Pos} {Q : Value → Shared → Prop} (hk : autoParam (strLits keys = true) kR) (F : autoParam (Fr g L hp m) kA) (N : autoParam (News g L hp news) kA) (hbig : autoParam (g.NoLimit) kN) (hall : autoParam (keys.all (·.isSome) = true) kR) (hl : autoParam (keys.length = values.length) kR) (h0 : keys ≠ []) (hlen : keys.length ≤ 15)
    (h : ∀ D h' o, Fr g L h' m → News g L h' ((D, o) :: news) → AllLt D news → (D == sysModules) = false → o.IsDictOf (PySem.strKind PRG w) [] →
      wpAny (model PRG w) A (evalPairs (pairTrees keys values env pos)) (fun vs s₁ => KdnMade PRG w (PySem.strKind PRG w) D Q vs s₁) E ⟨h', gs, dr, tk, os⟩) :
    wpAny (model PRG w) A (eval (.Dict keys values pos) env) Q E ⟨hp, gs, dr, tk, os⟩ :=
  kdn_str (s := ⟨hp, gs, dr, tk, os⟩) hk F N hbig hall hl h0 hlen fun D h' o F' N' lt lo hd => h D h' o F' N' (allLt_of lt) lo hd
theorem dm_str {vs : List (Value × Value)} {G : Obj → Led} {Q : Value → Shared → Prop} {kvs : List (Str × Value)} (F : autoParam (Fr g L hp m) kA) (N : autoParam (News g L hp news) kA) (U : autoParam (UpdF d o news G) kV) (hd : autoParam (o.IsDictOf (PySem.strKind PRG w) []) kA) (hk : autoParam (allStrKeys vs = true) kR) (hkv : strPairs vs = kvs) (hn : decide ((kvs.map (·.1)).Nodup) = true)
    (h : ∀ h' o' tk', Fr g L h' m → News g L h' (G o') → o'.IsDictOf (PySem.strKind PRG w) kvs → Q (.ref d) ⟨h', gs, dr, tk', os⟩) : KdnMade PRG w (PySem.strKind PRG w) d Q vs ⟨hp, gs, dr, tk, os⟩ := by
  subst hkv
  exact kdn_made_str (s := ⟨hp, gs, dr, tk, os⟩) F N U hd hk (of_decide_eq_true hn) fun h' o' F' N' hd' => h h' o' _ F' N' hd'
theorem c_getS {kvs : List (Str × Value)} {k : Str} {t : Tok} {dflt : Value} {Q : Value → Shared → Prop} (N : autoParam (News g L hp news) kA) (hm : autoParam ((d, o) ∈ news) kM) (hd : autoParam (o.IsDictOf (PySem.strKind PRG w) kvs) kA) (lo : autoParam ((d == sysModules) = false) kA) (h : Q ((valueAt kvs k).getD dflt) ⟨hp, gs, dr, tk + 1, os⟩) :
    wpAny (model PRG w) A (call (.builtin "dict.get") [.ref d, .str k t, dflt]) Q E ⟨hp, gs, dr, tk, os⟩ := kdg_get2 (s := ⟨hp, gs, dr, tk, os⟩) N hm hd lo (strKind_is _ _ _ _) _ rfl h
theorem recv_S {kvs : List (Str × Value)} {s : Shared} {K : Addr → String → Shared → Prop} (N : autoParam (News g L s.heap news) kA) (hm : autoParam ((l, o) ∈ news) kM) (hd : autoParam (o.IsDictOf (PySem.strKind PRG w) kvs) kA) (h : K l "dict.get" s) : Recv w A E (Str.ofString "get") K (.ref l) s :=
  ⟨l, _, rfl, fun _ _ h => kdg_method N hm hd h, h⟩
end
section
variable {w : World} {g : Heap} {L : Addr} {a : Addr} {cn : Str} {cs : Scope} {ccd : Value} {cl : List (Str × Addr)} {A : Around} {E : Value → Shared → Prop}
/-- a method of what an expression gives -/
theorem e_xmeth {meth : Str} {ob : PySem.Expr} {ap pos : Pos} {args : List PySem.Expr} {s : Shared} {Q : Value → Shared → Prop} (hb : autoParam (attributeBase ob meth (envX cn cs L a ccd cl) (eval ob (envX cn cs L a ccd cl)) = eval ob (envX cn cs L a ccd cl)) kR) (hn : autoParam (args.all nst = true) kR) (he : autoParam (args.isEmpty = false) kR) (hlen : autoParam (decide (args.length < 30) = true) kR) (hp : autoParam ((ap.endLine == pos.line) = true) kR)
    (h : wpAny (model PRG w) A (eval ob (envX cn cs L a ccd cl)) (Recv w A E meth (fun l id s₁ => wpArgs (model PRG w) A E (envX cn cs L a ccd cl) args (fun vs s₂ => wpAny (model PRG w) A (call (.builtin id) (.ref l :: vs)) Q E s₂) s₁)) E s) :
    wpAny (model PRG w) A (eval (.Call (.Attribute ob meth ap) args [] pos) (envX cn cs L a ccd cl)) Q E s := by
  refine MethodCall_ (pl := _) (wpAny_mono h (fun v s₁ h₁ => ?_) fun _ _ x => x) (ev_mcall hb hn hlen hp)
  obtain ⟨l, id, rfl, hg, h₁⟩ := h₁
  refine hg _ _ ?_
  cases args with
  | nil => cases he
  | cons e r =>
    refine callWith_method1 (wpArgs_spliced hn ?_) ?_ ?_
    · exact h₁
    · simp only [List.all_cons, Bool.and_eq_true] at hn; exact star_nst hn.1
    · simp only [List.all_cons, Bool.and_eq_true] at hn; exact any_nst hn.2
end
/- rows of strs -/
noncomputable def allS : List Value → Bool
  | [] => true
  | .str _ _ :: r => allS r
  | _ :: _ => false
theorem allS_get : ∀ {vs : List Value} {k : Nat} {v : Value}, allS vs = true → vs[k]? = some v → ∃ x t, v = .str x t
  | [], _, _, _, h => by simp at h
  | u :: r, k, v, ha, h => by
    have hu : ∃ x t, u = .str x t := by cases u <;> first | exact ⟨_, _, rfl⟩ | (simp [allS] at ha)
    obtain ⟨x, t, rfl⟩ := hu
    cases k with
    | zero => rw [List.getElem?_cons_zero] at h; exact ⟨x, t, (Option.some.inj h).symm⟩
    | succ k => rw [List.getElem?_cons_succ] at h; exact allS_get (by simpa [allS] using ha) h
theorem need_get (t1 t2 t3 t0 : Tok) (op : Str) : ∃ (n : Int) (t : Tok), (valueAt [(Str.ofString "not", Value.int 1 t1), (Str.ofString "xor", .int 2 t2), (Str.ofString "=>", .int 2 t3)] op).getD (.int 0 t0) = .int n t ∧ ∀ bs : List Bool, ¬ ((bs.length : Int) < n) → Enough op bs := by
  by_cases h1 : op = Str.ofString "not"
  · subst h1
    refine ⟨1, t1, rfl, fun bs h => ⟨fun _ => by omega, fun e => absurd e (by decide), fun e => absurd e (by decide)⟩⟩
  by_cases h2 : op = Str.ofString "xor"
  · subst h2
    refine ⟨2, t2, rfl, fun bs h => ⟨fun e => absurd e (by decide), fun _ => by omega, fun e => absurd e (by decide)⟩⟩
  by_cases h3 : op = Str.ofString "=>"
  · subst h3
    refine ⟨2, t3, rfl, fun bs h => ⟨fun e => absurd e (by decide), fun e => absurd e (by decide), fun _ => by omega⟩⟩
  refine ⟨0, t0, ?_, fun bs h => ⟨fun e => absurd e h1, fun e => absurd e h2, fun e => absurd e h3⟩⟩
  unfold valueAt
  rw [List.find?_cons_of_neg (by simpa using Ne.symm h1), List.find?_cons_of_neg (by simpa using Ne.symm h2), List.find?_cons_of_neg (by simpa using Ne.symm h3)]
  rfl
theorem bz_is1 (b : Bool) : (bz b == 1) = b := by cases b <;> rfl
theorem bz_of {r : Int} (h0 : 0 ≤ r) (h1 : r < 2) : ∃ b, r = bz b := by
  rcases (show r = 0 ∨ r = 1 by omega) with rfl | rfl
  · exact ⟨false, rfl⟩
  · exact ⟨true, rfl⟩
theorem lt_need {prog : Program} {w : World} {A : Around} {E : Value → Shared → Prop} {s : Shared} {a : Int} {t t1 t2 t3 t0 : Tok} {op : Str} {Q : Value → Shared → Prop} (h : ∀ c : Bool, (c = false → ∀ bs : List Bool, (bs.length : Int) = a → Enough op bs) → Q (.bool c) s) :
    wpAny (model prog w) A (compareOp .Lt (.int a t) ((valueAt [(Str.ofString "not", Value.int 1 t1), (Str.ofString "xor", .int 2 t2), (Str.ofString "=>", .int 2 t3)] op).getD (.int 0 t0))) Q E s := by
  obtain ⟨n, u, e, hE⟩ := need_get t1 t2 t3 t0 op
  rw [e]
  refine lt_int (h _ fun hc bs hb => hE bs ?_)
  rw [hb]
  simpa using hc
end
/- Fx -/
section
open PySem PySem.W PyProof.Rows PySem.Calls PyProof.Rows.LCg PyProof.Rows.LCt
/-- how many a list of ints has, each once -/
noncomputable def dd (ns : List Int) : Nat := (firstMet (fun i => ns.getD i 0) ns.length).length
theorem dd2 (x y : Bool) : bz (((dd [bz x, bz y] : Nat) : Int) == ((2 : Nat) : Int)) = bz (x != y) := by cases x <;> cases y <;> rfl
theorem dd3 (x y z : Bool) : bz (((dd [bz x, bz y, bz z] : Nat) : Int) == ((3 : Nat) : Int)) = bz false := by cases x <;> cases y <;> cases z <;> rfl
theorem dd_le (ns : List Int) : dd ns ≤ ns.length := firstMet_length_le _ _
section
variable {w : World} {g : Heap} {L : Addr} {A : Around} {E : Value → Shared → Prop} {gs : Array GenState} {dr : Drawn} {os : OsState} {l : Addr} {m : Str → Option Value} {news : Led} {hp : Heap} {tk : Nat}
theorem c_set {vs : List Value} {ns : List Int} {n : Nat} {Q : Value → Shared → Prop} (hh : autoParam (A.handled = none) kR) (F : autoParam (Fr g L hp m) kA) (N : autoParam (News g L hp news) kA) (hm : autoParam ((l, listOf vs.toArray n) ∈ news) kM) (hi : autoParam (IntsAre vs ns) kA) (hz : vs.length ≤ 1000)
    (h : ∀ D h' tk', Fr g L h' m → News g L h' news → (∃ S, h'.SetOf (PySem.intKind PRG w) D S (dd ns)) → Q (.ref D) ⟨h', gs, dr, tk', os⟩) : wpAny (model PRG w) A (call (.type "set") [.ref l]) Q E ⟨hp, gs, dr, tk, os⟩ := by
  refine call_set_list (s := ⟨hp, gs, dr, tk, os⟩) (ns := ns) hh (Mine.News.isList N hm) (by simpa using hi) (by rw [List.size_toArray]; unfold scanBound; omega) fun h' tk' hS hk => ?_
  have e : vs.toArray.size = ns.length := by rw [List.size_toArray, hi.length]
  rw [e] at hS
  exact h _ h' tk' (F.keeps fun b o e => hk b o (Heap.lt_size e) e) (N.grown fun b o e => hk b o (Heap.lt_size e) e) ⟨_, hS⟩
theorem c_lenset {D : Addr} {n : Nat} {Q : Value → Shared → Prop} (hS : autoParam (∃ S, hp.SetOf (PySem.intKind PRG w) D S n) kA) (hz : n ≤ 1000) (h : Q (.int (n : Nat) (tk + 1)) ⟨hp, gs, dr, tk + 2, os⟩) : wpAny (model PRG w) A (call (.builtin "len") [.ref D]) Q E ⟨hp, gs, dr, tk, os⟩ := by
  obtain ⟨S, o, es, ep, t, h1, h2, h3, _, _, _, h4, rfl⟩ := hS
  exact call_len_set (s := ⟨hp, gs, dr, tk, os⟩) h1 h2 h3 h4 (by omega) h
end
/-- what is known: each key's value is right -/
structure Kv (V : Nat → Value → Prop) (kvs : List (Int × Value)) (S : List Nat) (n : Nat) : Prop where
  at_ : ∀ c ∈ S, (valueAt kvs (c : Int)).isSome = true
  val : ∀ (c : Nat) v, valueAt kvs (c : Int) = some v → V c v
  len : kvs.length ≤ n
section
variable {V : Nat → Value → Prop} {kvs : List (Int × Value)} {S : List Nat} {n : Nat} {x : Nat} {v : Value}
theorem Kv.nil : Kv V [] [] 0 := ⟨(fun _ h => nomatch h), (fun _ _ h => nomatch h), Nat.le_refl _⟩
theorem Kv.get (h : Kv V kvs S n) {c : Nat} (hc : c ∈ S) : ∃ v, valueAt kvs (c : Int) = some v ∧ V c v := by
  have := h.at_ c hc
  cases hv : valueAt kvs (c : Int) with
  | none => rw [hv] at this; exact nomatch this
  | some v => exact ⟨v, rfl, h.val c v hv⟩
theorem Kv.add (h : Kv V kvs S n) (hv : V x v) : Kv V (stored kvs (x : Int) v) (S ++ [x]) (n + 1) := by
  refine ⟨fun c hc => ?_, fun c u hu => ?_, Nat.le_trans (stored_length_le _ _ _) (Nat.succ_le_succ h.len)⟩
  · rw [valueAt_stored]
    by_cases e : (c : Int) = (x : Int)
    · rw [if_pos e]; rfl
    · rw [if_neg e]
      rcases List.mem_append.mp hc with hc | hc
      · exact h.at_ c hc
      · exact absurd (by rw [List.mem_singleton.mp hc]) e
  · rw [valueAt_stored] at hu
    by_cases e : (c : Int) = (x : Int)
    · rw [if_pos e] at hu
      obtain rfl : c = x := by omega
      rw [← Option.some.inj hu]; exact hv
    · rw [if_neg e] at hu
      exact h.val c u hu
theorem Kv.skip (h : Kv V kvs S n) (hx : (valueAt kvs (x : Int)).isSome = true) : Kv V kvs (S ++ [x]) (n + 1) :=
  ⟨fun c hc => by
    rcases List.mem_append.mp hc with hc | hc
    · exact h.at_ c hc
    · rw [List.mem_singleton.mp hc]; exact hx, h.val, Nat.le_succ_of_le h.len⟩
end
/-- a truth as a number -/
noncomputable def VT (ρ : Nat → Bool) (T : List Key) (c : Nat) (v : Value) : Prop := ∃ t, v = .int (bz (ev ρ T c)) t
theorem kv_ints {kvs : List (Int × Value)} {f : Nat → Bool} : ∀ {as : List Int}, (∀ x ∈ as, ∃ t, (valueAt kvs x).getD .none = .int (bz (f x.toNat)) t) → IntsAre (as.map fun x => (valueAt kvs x).getD .none) ((as.map fun x => f x.toNat).map bz)
  | [], _ => .nil
  | a :: r, h => by
    obtain ⟨t, e⟩ := h a (.head _)
    rw [List.map_cons, List.map_cons, List.map_cons, e]
    exact .cons _ _ (kv_ints fun x hx => h x (.tail _ hx))
theorem bz_eq (x y : Bool) : (bz x == bz y) = (x == y) := by cases x <;> cases y <;> rfl
end
/- Rc -/
/- several steps at once -/
section
variable {w : World} {g : Heap} {L a : Addr} {cn : Str} {cs : Scope} {ccd : Value} {cl : List (Str × Addr)} {names : List Str} {A : Around} {E : Value → Shared → Prop} {gs : Array GenState} {dr : Drawn} {os : OsState} {hp : Heap} {tk : Nat} {vals : List (Option Value)} {news : Led} {x : Str} {i : Nat} {Q : Flow → Shared → Prop} {body orelse rest : List Stmt} {c lit : Str} {z k : Int} {t : Tok} {kk : Nat} {xp cp pos ip : Pos}
theorem x_ifs (F : autoParam (Fr g L hp (lkv names vals)) kA) (hl : autoParam (Lv cs names x i) kA) (hv : autoParam (vals[i]? = some (some (.str c t))) kR)
    (h : if (c == lit) = true then wpAny (model PRG w) A (execs body (envX cn cs L a ccd cl)) (thn (model PRG w) A E (envX cn cs L a ccd cl) rest Q) E ⟨hp, gs, dr, tk + 1, os⟩ else wpAny (model PRG w) A (execs rest (envX cn cs L a ccd cl)) Q E ⟨hp, gs, dr, tk + 1, os⟩) :
    wpAny (model PRG w) A (execs (.If (.Compare (.Name x xp) [.Eq] [.Constant (.str lit) kk cp] pos) body [] ip :: rest) (envX cn cs L a ccd cl)) Q E ⟨hp, gs, dr, tk, os⟩ :=
  x_if (t_cmp rfl (e_var (s := ⟨hp, gs, dr, tk, os⟩) F hl hv (e_str (eq_str (truthy_b h)))))
theorem x_ifs_f (F : autoParam (Fr g L hp (lkv names vals)) kA) (hl : autoParam (Lv cs names x i) kA) (hv : autoParam (vals[i]? = some (some (.str c t))) kR) (hc : (c == lit) = false)
    (h : wpAny (model PRG w) A (execs rest (envX cn cs L a ccd cl)) Q E ⟨hp, gs, dr, tk + 1, os⟩) :
    wpAny (model PRG w) A (execs (.If (.Compare (.Name x xp) [.Eq] [.Constant (.str lit) kk cp] pos) body [] ip :: rest) (envX cn cs L a ccd cl)) Q E ⟨hp, gs, dr, tk, os⟩ := x_ifs F hl hv (if_f hc h)
theorem x_ifs_t (F : autoParam (Fr g L hp (lkv names vals)) kA) (hl : autoParam (Lv cs names x i) kA) (hv : autoParam (vals[i]? = some (some (.str c t))) kR) (hc : (c == lit) = true)
    (h : wpAny (model PRG w) A (execs body (envX cn cs L a ccd cl)) (thn (model PRG w) A E (envX cn cs L a ccd cl) rest Q) E ⟨hp, gs, dr, tk + 1, os⟩) :
    wpAny (model PRG w) A (execs (.If (.Compare (.Name x xp) [.Eq] [.Constant (.str lit) kk cp] pos) body [] ip :: rest) (envX cn cs L a ccd cl)) Q E ⟨hp, gs, dr, tk, os⟩ := x_ifs F hl hv (if_t hc h)
theorem x_ifi (F : autoParam (Fr g L hp (lkv names vals)) kA) (hl : autoParam (Lv cs names x i) kA) (hv : autoParam (vals[i]? = some (some (.int z t))) kR)
    (h : if (z == k) = true then wpAny (model PRG w) A (execs body (envX cn cs L a ccd cl)) (thn (model PRG w) A E (envX cn cs L a ccd cl) rest Q) E ⟨hp, gs, dr, tk + 1, os⟩ else wpAny (model PRG w) A (execs rest (envX cn cs L a ccd cl)) Q E ⟨hp, gs, dr, tk + 1, os⟩) :
    wpAny (model PRG w) A (execs (.If (.Compare (.Name x xp) [.Eq] [.Constant (.int k) kk cp] pos) body [] ip :: rest) (envX cn cs L a ccd cl)) Q E ⟨hp, gs, dr, tk, os⟩ :=
  x_if (t_cmp rfl (e_var (s := ⟨hp, gs, dr, tk, os⟩) F hl hv (e_int (eq_int (truthy_b h)))))
theorem x_ifes (F : autoParam (Fr g L hp (lkv names vals)) kA) (hl : autoParam (Lv cs names x i) kA) (hv : autoParam (vals[i]? = some (some (.str c t))) kR)
    (h : if (c == lit) = true then wpAny (model PRG w) A (execs body (envX cn cs L a ccd cl)) (thn (model PRG w) A E (envX cn cs L a ccd cl) rest Q) E ⟨hp, gs, dr, tk + 1, os⟩ else wpAny (model PRG w) A (execs orelse (envX cn cs L a ccd cl)) (thn (model PRG w) A E (envX cn cs L a ccd cl) rest Q) E ⟨hp, gs, dr, tk + 1, os⟩) :
    wpAny (model PRG w) A (execs (.If (.Compare (.Name x xp) [.Eq] [.Constant (.str lit) kk cp] pos) body orelse ip :: rest) (envX cn cs L a ccd cl)) Q E ⟨hp, gs, dr, tk, os⟩ :=
  x_ife (t_cmp rfl (e_var (s := ⟨hp, gs, dr, tk, os⟩) F hl hv (e_str (eq_str (truthy_b h)))))
end
section
variable {w : World} {g : Heap} {L a : Addr} {cn : Str} {cs : Scope} {ccd : Value} {cl : List (Str × Addr)} {names : List Str} {A : Around} {E : Value → Shared → Prop} {s : Shared} {vals : List (Option Value)} {news : Led} {o d C : Addr} {es : List DictEntry} {n : Nat} {x y : Str} {i j : Nat} {v : Value} {pos xp ap yp : Pos} {r : List PySem.Expr}
theorem wa_v {Q : List Value → Shared → Prop} (F : autoParam (Fr g L s.heap (lkv names vals)) kA) (hl : autoParam (Lv cs names x i) kA) (hv : autoParam (vals[i]? = some (some v)) kR)
    (h : wpArgs (model PRG w) A E (envX cn cs L a ccd cl) r (fun vs s₂ => Q (v :: vs) s₂) s) : wpArgs (model PRG w) A E (envX cn cs L a ccd cl) (.Name x pos :: r) Q s := wa_cons (e_var F hl hv h)
theorem wa_v1 {Q : List Value → Shared → Prop} (F : autoParam (Fr g L s.heap (lkv names vals)) kA) (hl : autoParam (Lv cs names x i) kA) (hv : autoParam (vals[i]? = some (some v)) kR)
    (h : Q [v] s) : wpArgs (model PRG w) A E (envX cn cs L a ccd cl) [.Name x pos] Q s := wa_cons (e_var F hl hv h)
theorem e_mcall1 {meth : Str} {f : Addr} {Q : Value → Shared → Prop} (F : autoParam (Fr g L s.heap (lkv names vals)) kA) (N : autoParam (News g L s.heap news) kA) (X : autoParam ((heapK w.params).In g) kA) (hl : autoParam (Lv cs names x i) kA) (hv : autoParam (vals[i]? = some (some (.ref o))) kR)
    (ho : autoParam ((o, instObj C d) ∈ news) kM) (hdd : autoParam ((d, dictOf es n) ∈ news) kM) (ha : autoParam (getL meth es = some none) kA) (hk : MethOk (heapK w.params) C meth f) (hp : autoParam ((ap.endLine == pos.line) = true) kR)
    (hl2 : autoParam (Lv cs names y j) kA) (hv2 : autoParam (vals[j]? = some (some v)) kR) (h : wpAny (model PRG w) A (call (.ref f) [.ref o, v]) Q E s) :
    wpAny (model PRG w) A (eval (.Call (.Attribute (.Name x xp) meth ap) [.Name y yp] [] pos) (envX cn cs L a ccd cl)) Q E s :=
  e_mcall F N X hl hv ho hdd ha hk rfl rfl rfl hp (wa_v1 F hl2 hv2 ⟨In.of X F, h⟩)
end
/- Lw -/
section
open PySem PySem.W PyProof.Rows PySem.Calls PySem.Spec PyProof.Rows.LCg PyProof.Rows.LCt
/- two lists of the same truths -/
theorem bo_can : ∀ bs : List Bool, PyData.canLayAll0 (bs.map PyData.bool) = true
  | [] => rfl
  | _ :: r => by simp [PyData.canLayAll0, PyData.canLay0, bo_can r]
theorem bo_depth : ∀ bs : List Bool, PyData.depthAll (bs.map PyData.bool) = 0
  | [] => rfl
  | _ :: r => by simp [PyData.depthAll, PyData.depth, bo_depth r]
theorem bo_shaped (bs : List Bool) : SeqAt.shaped (.list (bs.map PyData.bool)) = true := by
  simp [SeqAt.shaped, PyData.canLay0, PyData.depth, bo_can, bo_depth]
theorem bo_sameAll : ∀ bs : List Bool, PySem.Spec.sameAll (bs.map PyData.bool) (bs.map PyData.bool) = true
  | [] => by simp [PySem.Spec.sameAll]
  | b :: r => by simp only [List.map_cons, PySem.Spec.sameAll, PySem.Spec.same, bo_sameAll r]; simp
theorem bo_same (bs : List Bool) : PySem.Spec.same (.list (bs.map PyData.bool)) (.list (bs.map PyData.bool)) = true := by
  simp only [PySem.Spec.same]; exact bo_sameAll bs
theorem bo_carried : ∀ bs : List Bool, CarriedAll (bs.map Value.bool) (bs.map PyData.bool)
  | [] => .nil
  | b :: r => .cons (.bool b) (bo_carried r)
section
variable {w : World} {g : Heap} {L : Addr} {a : Addr} {A : Around} {E : Value → Shared → Prop} {s : Shared} {b : Addr} {news : Led} {bs : List Bool} {n1 : Nat} {n2 : Nat} {Q : Value → Shared → Prop}
theorem c_nebools (N : News g L s.heap news) (ha : (a, listOf (bs.map Value.bool).toArray n1) ∈ news) (hb : (b, listOf (bs.map Value.bool).toArray n2) ∈ news) (hu : A.units + 64 < cLine) (h : Q (.bool false) s) :
    wpAny (model PRG w) A (compareOp .NotEq (.ref a) (.ref b)) Q E s :=
  ne_dataH_same (reads_newData (Mine.News.isList N ha) (bo_carried bs)) (reads_newData (Mine.News.isList N hb) (bo_carried bs)) (bo_shaped _) (bo_shaped _) hu (SeqAt.noMix_of_shape (.list .bool) rfl _ _ (list_map_has fun _ => rfl) (list_map_has fun _ => rfl)) (by rw [bo_same]; exact h)
theorem isnot_bz {z : Bool} (h : Q (.bool false) s) : wpAny (model PRG w) A (compareOp .IsNot (.bool z) (.bool (bz z == 1))) Q E s := by
  refine PyProof.Rows.isnot_bool ?_
  have e : (z != (bz z == 1)) = false := by cases z <;> rfl
  rw [e]; exact h
end
section
variable {w : World} {g : Heap} {L : Addr} {a : Addr} {cn : Str} {cs : Scope} {ccd : Value} {cl : List (Str × Addr)} {C : Addr} {A : Around} {E : Value → Shared → Prop} {s : Shared} {c : Addr} {b : Addr} {d : Addr} {m : Str → Option Value} {news : Led} {x : Str} {oc : Obj} {es : List DictEntry} {n : Nat}
/-- a method of an object that a cell holds -/
theorem e_cmcall {meth : Str} {xp ap pos : Pos} {args : List PySem.Expr} {f : Addr} {Q : Value → Shared → Prop} (F : autoParam (Fr g L s.heap m) kA) (N : autoParam (News g L s.heap news) kA) (X : autoParam ((heapK w.params).In g) kA) (hx : autoParam (okC cs x = true) kK) (hc : autoParam (cl.lookup x = some c) kR) (hm : autoParam ((c, oc) ∈ news) kM) (ho : autoParam (oc.data = .cell (some (.ref b))) kA)
    (hb : autoParam ((b, instObj C d) ∈ news) kM) (hdd : autoParam ((d, dictOf es n) ∈ news) kM) (ha : autoParam (getL meth es = some none) kA) (hk : MethOk (heapK w.params) C meth f) (hn : autoParam (args.all nst = true) kR) (he : autoParam (args.isEmpty = false) kR) (hlen : autoParam (decide (args.length < 30) = true) kR) (hp : autoParam ((ap.endLine == pos.line) = true) kR)
    (h : wpArgs (model PRG w) A E (envX cn cs L a ccd cl) args (fun vs s₁ => (heapK w.params).In s₁.heap ∧ wpAny (model PRG w) A (call (.ref f) (.ref b :: vs)) Q E s₁) s) :
    wpAny (model PRG w) A (eval (.Call (.Attribute (.Name x xp) meth ap) args [] pos) (envX cn cs L a ccd cl)) Q E s := by
  obtain ⟨k1, k2, k3, k4⟩ := hk
  refine MethodCall_ (pl := _) (e_cell N hx hc hm ho (method_inst F X (InstAt.of_news N hb hdd) k1 k2 k3 ha ?_)) (ev_mcall base_name hn hlen hp)
  cases args with
  | nil => cases he
  | cons e r =>
    refine callWith_K X k4 (wpArgs_spliced hn ?_) ?_ ?_
    · exact h
    · simp only [List.all_cons, Bool.and_eq_true] at hn; exact star_nst hn.1
    · simp only [List.all_cons, Bool.and_eq_true] at hn; exact any_nst hn.2
end
/- a node's words -/
theorem node_enough {i : Nat} {k : Key} {f : Int → Bool} (h : NodeOk i k) : Enough k.1 (k.2.1.map f) := by
  cases h <;> dsimp only <;> exact ⟨fun e => by first | exact absurd e (by decide) | exact Nat.le_of_ble_eq_true rfl, fun e => by first | exact absurd e (by decide) | exact Nat.le_of_ble_eq_true rfl, fun e => by first | exact absurd e (by decide) | exact Nat.le_of_ble_eq_true rfl⟩
noncomputable def five : List Str := [Str.ofString "not", Str.ofString "and", Str.ofString "or", Str.ofString "xor", Str.ofString "=>"]
theorem five_ne {o x : Str} (h : five.any (· == o) = true) (hx : five.contains x = false) : (o == x) = false := by
  cases e : o == x with
  | false => rfl
  | true =>
    rw [beq_iff_eq] at e
    subst e
    obtain ⟨y, hy, h2⟩ := List.any_eq_true.mp h
    rw [beq_iff_eq] at h2
    subst h2
    rw [List.contains_iff_mem.mpr hy] at hx
    exact hx
theorem five_nin {o : Str} (h : five.any (· == o) = true) : ∀ {xs : List Str}, xs.all (fun x => !five.contains x) = true → xs.any (· == o) = false
  | [], _ => rfl
  | x :: r, hx => by
    rw [List.all_cons, Bool.and_eq_true, Bool.not_eq_true'] at hx
    rw [List.any_cons, five_nin h hx.2, Bool.or_false]
    have := five_ne h hx.1
    rw [beq_eq_false_iff_ne] at this ⊢
    exact Ne.symm this
theorem conn_node {ρ f : Nat → Bool} {i : Nat} {k : Key} (h : NodeOk i k) : conn k.1 (k.2.1.map fun x => f x.toNat) = if five.any (· == k.1) = true then some (nv ρ f k) else none := by
  cases h with
  | tru => rw [if_neg (by dsimp only; decide)]; rfl
  | fls => rw [if_neg (by dsimp only; decide)]; rfl
  | app => rw [if_neg (by dsimp only; decide)]; rfl
  | not a => rw [if_pos (by dsimp only; decide), nv_not, conn_not]; rfl
  | xor a b => rw [if_pos (by dsimp only; decide), nv_xor, conn_xor]; rfl
  | imp a b => rw [if_pos (by dsimp only; decide), nv_imp, conn_imp]; rfl
  | eqq => rw [if_neg (by dsimp only; decide)]; rfl
  | dis2 => rw [if_neg (by dsimp only; decide)]; rfl
  | dis3 => rw [if_neg (by dsimp only; decide)]; rfl
  | ite => rw [if_neg (by dsimp only; decide)]; rfl
  | and a b c => rw [if_pos (by dsimp only; decide), nv_and, conn_and]; simp
  | or a b c => rw [if_pos (by dsimp only; decide), nv_or, conn_or]; simp
theorem Topo.sub {T : List Key} {roots L L' : List Nat} (h : Topo T roots L) (h' : Topo T roots L') : ∀ x ∈ L', x ∈ L := fun x hx => h.all (h'.rc x hx)
/- the law's own frame -/
noncomputable def lawNames : List Str := [Str.ofString "script", Str.ofString "feed", Str.ofString "leaves", Str.ofString "t", Str.ofString "model", Str.ofString "leaf", Str.ofString "parts", Str.ofString "part", Str.ofString "told"]
noncomputable def LawAt (w : World) (k : Nat) (qual : Str) (scope : Scope) (body : List Stmt) (P : Heap → Addr → List (Option Value) → Led → Prop) : Prop :=
  ∀ (gd : Option (List Code)) (f : Addr) (ccd : Value) (A₀ : Around) (base : Heap) (mean : ExcName → Option Value) (mg mb : Str → Option Value) (un : Nat) (g : Heap) (L : Addr) (h : Heap) (gs : Array GenState) (dr : Drawn) (os : OsState) (tk : Nat) (Q : Flow → Shared → Prop) (vals : List (Option Value)) (news : Led),
    (∀ i x, lawNames[i]? = some x → Lv scope lawNames x i) → un ≤ 20 →
    Below A₀ base [] g → (heapK w.params).In g → Top viewK (looseW viewK [Str.ofString "MOST_BITS"]) mean mg mb g → Fr g L h (lkv lawNames vals) → News g L h news → P g L vals news →
    (∀ h' tk' m', Fr g L h' m' → Q (.ret (.bool true)) ⟨h', gs, dr, tk', os⟩) →
    wpAny (model PRG w) (ktrTop 302 un gd qual scope L f ccd [(Str.ofString "known", L + 2), (Str.ofString "bank", L + 1)] []) (execs (body.drop k) (envX qual scope L f ccd [(Str.ofString "known", L + 2), (Str.ofString "bank", L + 1)])) Q (fun _ _ => False) ⟨h, gs, dr, tk, os⟩
noncomputable def LawGo (w : World) (k : Nat) (P : Heap → Addr → List (Option Value) → Led → Prop) : Prop :=
  ∀ {name qual : Str} {params : Arguments} {body : List Stmt} {scope : Scope} {dV kV doc pm cdv ct oc : Value} {an od : Option Addr} {osl : Array (Option Value)},
    (heapK w.params).lookup 950 = some ⟨oc, od, .func (fnOf name qual params body scope dV kV doc pm an cdv ct), osl⟩ → LawAt w k qual scope body P
theorem law_intro {w : World} {k : Nat} {P : Heap → Addr → List (Option Value) → Led → Prop} {name qual : Str} {params : Arguments} {body : List Stmt} {scope : Scope} {dV kV doc pm cdv ct oc : Value} {an od : Option Addr} {osl : Array (Option Value)}
    (ho : (heapK w.params).lookup 950 = some ⟨oc, od, .func (fnOf name qual params body scope dV kV doc pm an cdv ct), osl⟩) (H : LawAt w k qual scope body P) : LawGo w k P := by
  intro name' qual' params' body' scope' dV' kV' doc' pm' cdv' ct' oc' an' od' osl' ho'
  rw [ho] at ho'
  have e := Option.some.inj ho'
  injection e with _ _ e _
  injection e with e
  injection e with e1 e2 e3 e4 e5
  injection e4 with e4
  subst e2 e4 e5
  exact H
end
/- At -/
/- own attributes, by a table -/
theorem str_beq_comm (x y : Str) : (x == y) = (y == x) := by
  by_cases h : x = y
  · subst h; rfl
  · rw [beq_eq_false_iff_ne.mpr h, beq_eq_false_iff_ne.mpr (Ne.symm h)]
theorem isStr_eq {v : Value} {x y : Str} (h : v.isStr x = true) (h' : v.isStr y = true) : x = y := by
  cases v <;> simp [Value.isStr] at h h'
  rw [← h, ← h']
theorem any_refKey (name : Str) (hsh : Int) (t : Tok) (v : Value) : ∀ es : List DictEntry, (putL name hsh (.str name t) v es).any (·.refKey) = es.any (·.refKey)
  | [] => rfl
  | e :: r => by
    unfold putL
    split
    · rw [List.any_cons, List.any_cons]; rfl
    · rw [List.any_cons, List.any_cons, any_refKey name hsh t v r]
theorem find_putL_self (name : Str) (hsh : Int) (t : Tok) (v : Value) : ∀ es : List DictEntry, ∃ e, (putL name hsh (.str name t) v es).find? (·.key.isStr name) = some e ∧ e.val = v
  | [] => by
    refine ⟨⟨hsh, .str name t, v⟩, ?_, rfl⟩
    unfold putL
    rw [List.find?_cons_of_pos (p := fun x : DictEntry => x.key.isStr name) (by simp [Value.isStr])]
  | e :: r => by
    unfold putL
    by_cases h : e.key.isStr name = true
    · rw [if_pos h]
      exact ⟨_, List.find?_cons_of_pos (p := fun x : DictEntry => x.key.isStr name) h, rfl⟩
    · rw [if_neg h]
      obtain ⟨e', h1, h2⟩ := find_putL_self name hsh t v r
      exact ⟨e', by rw [List.find?_cons_of_neg (p := fun x : DictEntry => x.key.isStr name) h]; exact h1, h2⟩
theorem find_putL_ne {name y : Str} (hn : y ≠ name) (hsh : Int) (t : Tok) (v : Value) : ∀ es : List DictEntry, (putL name hsh (.str name t) v es).find? (·.key.isStr y) = es.find? (·.key.isStr y)
  | [] => by
    unfold putL
    rw [List.find?_cons_of_neg (p := fun x : DictEntry => x.key.isStr y) (by simp [Value.isStr]; exact fun e => hn e.symm)]
  | e :: r => by
    unfold putL
    by_cases h : e.key.isStr name = true
    · rw [if_pos h]
      have hy : ¬ e.key.isStr y = true := fun h' => hn (isStr_eq h' h)
      have hy' : ¬ (⟨e.hash, e.key, v⟩ : DictEntry).key.isStr y = true := hy
      rw [List.find?_cons_of_neg (p := fun x : DictEntry => x.key.isStr y) hy', List.find?_cons_of_neg (p := fun x : DictEntry => x.key.isStr y) hy]
    · rw [if_neg h]
      by_cases hy : e.key.isStr y = true
      · rw [List.find?_cons_of_pos (p := fun x : DictEntry => x.key.isStr y) hy, List.find?_cons_of_pos (p := fun x : DictEntry => x.key.isStr y) hy]
      · rw [List.find?_cons_of_neg (p := fun x : DictEntry => x.key.isStr y) hy, List.find?_cons_of_neg (p := fun x : DictEntry => x.key.isStr y) hy, find_putL_ne hn hsh t v r]
theorem putL_len (name : Str) (hsh : Int) (key v : Value) : ∀ es : List DictEntry, (putL name hsh key v es).length ≤ es.length + 1
  | [] => by simp [putL]
  | e :: r => by
    unfold putL
    split
    · simp
    · have := putL_len name hsh key v r
      simp only [List.length_cons]; omega
/-- what the own dict holds -/
noncomputable def Ats (es : List DictEntry) (kvs : List (Str × Value)) : Prop := ∀ y, getL y es = some (kvs.lookup y)
theorem Ats.nil : Ats [] [] := fun y => rfl
theorem Ats.put {es : List DictEntry} {kvs : List (Str × Value)} (h : Ats es kvs) (name : Str) (hsh : Int) (t : Tok) (v : Value) : Ats (putL name hsh (.str name t) v es) ((name, v) :: kvs) := by
  intro y
  by_cases hy : y = name
  · subst hy
    obtain ⟨e, h1, h2⟩ := find_putL_self y hsh t v es
    unfold getL
    rw [h1, List.lookup_cons, beq_self_eq_true]
    show some (some e.val) = some (some v)
    rw [h2]
  · have e : (y == name) = false := by rw [beq_eq_false_iff_ne]; exact hy
    rw [List.lookup_cons, e, ← h y]
    show getL y _ = getL y es
    unfold getL
    rw [find_putL_ne hy, any_refKey]
theorem Ats.get {es : List DictEntry} {kvs : List (Str × Value)} (h : Ats es kvs) {y : Str} {u : Option Value} (e : kvs.lookup y = u) : getL y es = some u := by rw [h y, e]
/- what the written part says of storing -/
noncomputable def SetOk (K : Frag) (C : Addr) (x : Str) : Prop := findIn K (.ref C) "__setattr__" = some (some (.builtin "object.__setattr__")) ∧ plainOver K C = true ∧ takerIn K C x = some none ∧ hasDictIn K C = true
section
variable {w : World} {g : Heap} {L : Addr} {C : Addr} {A : Around} {E : Value → Shared → Prop} {gs : Array GenState} {dr : Drawn} {os : OsState} {x : Addr} {dx : Addr} {m : Str → Option Value} {news : Led} {es : List DictEntry} {n : Nat} {kvs : List (Str × Value)} {name : Str} {v : Value} {hp : Heap} {tk : Nat}
theorem s_attr {G : Obj → Led} {Q : Unit → Shared → Prop} (F : autoParam (Fr g L hp m) kA) (X : autoParam ((heapK w.params).In g) kA) (N : autoParam (News g L hp news) kA) (ho : autoParam ((x, instObj C dx) ∈ news) kM) (U : autoParam (UpdF dx (dictOf es n) news G) kV) (hA : autoParam (Ats es kvs) kA) (hk : SetOk (heapK w.params) C name) (hz : autoParam (es.length ≤ 900) kO)
    (h : ∀ h' es' n', Fr g L h' m → News g L h' (G (dictOf es' n')) → Ats es' ((name, v) :: kvs) → es'.length ≤ es.length + 1 → Q () ⟨h', gs, dr, tk + 2, os⟩) : wpAny (model PRG w) A (setAttr (.ref x) name v) Q E ⟨hp, gs, dr, tk, os⟩ := by
  obtain ⟨k1, k2, k3, k4⟩ := hk
  obtain ⟨pre, post, rfl, hg, b1, b2⟩ := U.split
  have hl : (getL name es).isSome = true := by rw [hA name]; rfl
  have up : ∀ (pre : Led) (o o' : Obj), (∀ p ∈ pre, p.1 ≠ dx) → (∀ p ∈ post, p.1 ≠ dx) → Upd dx o o' (pre ++ (dx, o) :: post) (pre ++ (dx, o') :: post) := by
    intro pre o o' h1 h2
    induction pre with
    | nil => exact .head h2
    | cons p r ih => exact .tail (h1 p (.head _)) (ih fun q hq => h1 q (.tail _ hq))
  refine set_dict (s := ⟨hp, gs, dr, tk, os⟩) F X N (InstAt.of_news N ho (List.mem_append_right _ (.head _))) rfl k1 k2 k3 k4 hl rfl (up pre _ _ b1 b2) (Nat.le_trans (putL_len _ _ _ _ _) (by omega)) fun h' F' N' => ?_
  exact h h' _ _ F' (hg _ ▸ N') (hA.put _ _ _ _) (putL_len _ _ _ _ _)
end
theorem x_asga {M : Model} {A : Around} {E : Value → Shared → Prop} {s : Shared} {env : Env} {o : PySem.Expr} {attr : Str} {pos' pos : Pos} {value : PySem.Expr} {rest : List Stmt} {Q : Flow → Shared → Prop} (hs : autoParam (swapsWith value (some (.Attribute o attr pos')) pos.line env = pure false) kR)
    (h : wpAny M A (eval value env) (fun v s₁ => wpAny M A (eval o env) (fun ov s₂ => wpAny M A (setAttr ov attr v) (fun _ s₃ => wpAny M A (execs rest env) Q E s₃) E s₂) E s₁) E s) : wpAny M A (execs (.Assign [.Attribute o attr pos'] value pos :: rest) env) Q E s :=
  wpAny_execs_cons (plainObj_wpAny_Assign_Attribute h hs)
theorem Nums.ofEmpty {w : World} {led : Led} {o : Obj} (h : o.IsDictOf (PySem.intKind PRG w) []) : Nums w led o [] := by
  obtain ⟨es, ep, hc, hdat, _, hp, _⟩ := h
  have he : es.toList = [] := List.length_eq_zero_iff.mp hp.length
  exact ⟨hc, ⟨es, ep, hdat, he⟩, by simp, List.nodup_nil⟩
/- a contract as code -/
noncomputable def DoesC (w : World) (f : Addr) (args : List Value) (D U : Nat) (news : Led) (Post : Value → Led → Prop) : Prop :=
  ∀ (dp un : Nat) (gd : Option (List Code)) (cn : Str) (cs : Scope) (L a : Addr) (ccd : Value) (cl : List (Str × Addr)) (outer : List Env) (g : Heap) (m : Str → Option Value) (s : Shared) (R : Result → Shared → Prop),
    Cx w outer g → Fr g L s.heap m → News g L s.heap news → cs.kind = .function → dp ≤ D → un ≤ U →
    (∀ v h' tk news', Fr g L h' m → News g L h' news' → Post v news' → R (.ok (.ret v)) ⟨h', s.gens, s.drawn, tk, s.os⟩) →
    codeAny (model PRG w) (ktrTop dp un gd cn cs L a ccd cl outer) (.call (.ref f) ⟨args, []⟩) R s
theorem DoesC.use {w : World} {f : Addr} {args : List Value} {D U : Nat} {news : Led} {Post : Value → Led → Prop} (d : DoesC w f args D U news Post)
    {dp un : Nat} {gd : Option (List Code)} {cn : Str} {cs : Scope} {L a : Addr} {ccd : Value} {cl : List (Str × Addr)} {outer : List Env} {A₀ : Around} {base g : Heap} {mean : ExcName → Option Value} {mg mb : Str → Option Value} {m : Str → Option Value} {hp : Heap} {gs : Array GenState} {dr : Drawn} {tk : Nat} {os : OsState} {R : Result → Shared → Prop}
    (B : Below A₀ base outer g) (X : (heapK w.params).In g) (T : Top viewK (looseW viewK [Str.ofString "MOST_BITS"]) mean mg mb g) (F : Fr g L hp m) (N : News g L hp news) (hk : cs.kind = .function) (hdp : dp ≤ D) (hun : un ≤ U)
    (ret : ∀ v h' tk news', Fr g L h' m → News g L h' news' → Post v news' → R (.ok (.ret v)) ⟨h', gs, dr, tk, os⟩) :
    codeAny (model PRG w) (ktrTop dp un gd cn cs L a ccd cl outer) (.call (.ref f) ⟨args, []⟩) R ⟨hp, gs, dr, tk, os⟩ :=
  d dp un gd cn cs L a ccd cl outer g m ⟨hp, gs, dr, tk, os⟩ R ⟨A₀, base, mean, mg, mb, B, X, T⟩ F N hk hdp hun ret
theorem doesC_intro {w : World} {f : Addr} {args : List Value} {D U : Nat} {news : Led} {Post : Value → Led → Prop}
    {name qual : Str} {params : Arguments} {body : List Stmt} {scope : Scope} {dV kV doc pm cdv ct oc : Value} {an od : Option Addr} {osl : Array (Option Value)} (names : List Str) (k : Nat) (vals : List (Option Value)) (hvals : args.map some ++ List.replicate k none = vals)
    (ho : (heapK w.params).lookup f = some ⟨oc, od, .func (fnOf name qual params body scope dV kV doc pm an cdv ct), osl⟩) (hcd : codeIn (heapK w.params) cdv qual = true) (hD : D < 900)
    (hbind : bindArgs (fnOf name qual params body scope dV kV doc pm an cdv ct) ⟨args, []⟩ = pure (names.zip args)) (hall : names.all (okL scope) = true) (hnd : decide names.Nodup = true)
    (hco : scope.isCoroutine = false) (hgen : scope.isGenerator = false) (hk : scope.kind = .function) (hcell : ∀ x ∈ scope.names, x.2 ≠ .cell)
    (h : ∀ (K : KK) (A₀ : Around) (base : Heap) (mean : ExcName → Option Value) (mg mb : Str → Option Value) (g : Heap) (L : Addr) (h : Heap) (gs : Array GenState) (dr : Drawn) (os : OsState) (tk : Nat) (Q : Flow → Shared → Prop),
      (∀ i x, names[i]? = some x → Lv scope names x i) →
      Below A₀ base K.outer g → (heapK w.params).In g → Top viewK (looseW viewK [Str.ofString "MOST_BITS"]) mean mg mb g →
      Fr g L h (lkv names vals) → News g L h news → (∀ p ∈ news, p.1 < L) → K.dp ≤ D + 1 → K.un ≤ U + 3 →
      (∀ fl s', Back g L gs dr os Post fl s' → Q fl s') →
      wpAny (model PySem.Challenge.rw_qz0034_01.row.prog w) (ktrK qual scope f cdv [] K L) (execs body (envX qual scope L f cdv [])) Q (fun _ _ => False) ⟨h, gs, dr, tk, os⟩) :
    DoesC w f args D U news Post := by
  have hnd' : names.Nodup := of_decide_eq_true hnd
  have hok : ∀ x ∈ names, okL scope x = true := List.all_eq_true.mp hall
  have hloc : ((names.zip args).all fun x => decide (scope.names.lookup x.1 = some .local)) = true := by
    rw [List.all_eq_true]
    rintro ⟨x, v⟩ hx
    exact decide_eq_true (okL_is (hok x (List.of_mem_zip hx).1)).2.1
  intro dp un gd cn cs L a ccd cl outer g m s R ⟨A₀, base, mean, mg, mb, B, X, T⟩ F N hcs hdp hun hret
  refine callX_plain (A := ktrTop dp un gd cn cs L a ccd cl outer) (cl := []) B F N T.nolimit rfl rfl hcs ((X.keeps F.keep) _ _ ho) rfl (codeRec_of (X.keeps F.keep) hcd) (by show dp < recursionLimit; unfold recursionLimit; omega) (BindsTo.of_eq hbind) (locs hloc) (fun g' L' h₁ FG F' N' B' st lt => ?_) hcell hco hgen hk
  rw [lkv_start (k := k) hnd', hvals] at F'
  have := h ⟨dp + 1, un + 3, gd, envX cn cs L a ccd cl :: outer⟩ (ktrTop dp un gd cn cs L a ccd cl outer) base mean mg mb g' L' h₁ s.gens s.drawn s.os (s.toks + (names.zip args).length)
    (fun fl s' => LeaveK g L m g' R (match fl with | .ret v => v | _ => .none) s') (fun i x hx => ⟨hok x (List.mem_of_getElem? hx), hx, hnd'⟩)
    B' (X.keeps fun b o e => st b o e) (T.keeps fun b o e => st b o e) F' N' lt (Nat.succ_le_succ hdp) (Nat.add_le_add_right hun 3)
    (by
      rintro fl s' ⟨v, h', tk, m', news', hv, rfl, F₁, N₁, hp⟩
      exact leaveK_ F₁ N₁ fun F₂ N₂ => by cases fl <;> (subst hv; exact hret _ h' tk news' F₂ N₂ hp))
  exact wpAny_mono this (fun _ _ x => x) (fun _ _ x => x.elim)
/- the cheap ways of arithmetic, ahead of omega -/
local macro_rules | `(tactic| kp_flats) => `(tactic| first | (with_reducible assumption) | (refine Nat.lt_trans (by with_reducible assumption) ?_; kp_flats))
local macro_rules | `(tactic| lsm_bools) => `(tactic| first
  | exact And.left (by with_reducible assumption)
  | exact And.left (And.right (by with_reducible assumption))
  | exact And.left (And.right (And.right (by with_reducible assumption)))
  | exact And.left (And.right (And.right (And.right (by with_reducible assumption))))
  | exact And.left (And.right (And.right (And.right (And.right (by with_reducible assumption)))))
  | exact And.left (And.right (And.right (And.right (And.right (And.right (by with_reducible assumption))))))
  | exact And.left (And.right (And.right (And.right (And.right (And.right (And.right (by with_reducible assumption)))))))
  | exact And.left (And.right (And.right (And.right (And.right (And.right (And.right (And.right (by with_reducible assumption))))))))
  | exact And.left (And.right (And.right (And.right (And.right (And.right (And.right (And.right (And.right (by with_reducible assumption)))))))))
  | exact And.left (And.right (And.right (And.right (And.right (And.right (And.right (And.right (And.right (And.right (by with_reducible assumption))))))))))
  | exact And.left (And.right (And.right (And.right (And.right (And.right (And.right (And.right (And.right (And.right (And.right (by with_reducible assumption)))))))))))
  | exact And.left (And.right (And.right (And.right (And.right (And.right (And.right (And.right (And.right (And.right (And.right (And.right (by with_reducible assumption))))))))))))
  | exact And.left (And.right (And.right (And.right (And.right (And.right (And.right (And.right (And.right (And.right (And.right (And.right (And.right (by with_reducible assumption)))))))))))))
  | exact And.left (And.right (And.right (And.right (And.right (And.right (And.right (And.right (And.right (And.right (And.right (And.right (And.right (And.right (by with_reducible assumption)))))))))))))))
local macro_rules | `(tactic| omega) => `(tactic| first
  | (with_reducible assumption)
  | ((with_reducible show @Ne Nat _ _); (try dsimp only); first | exact Ne.symm (by with_reducible assumption) | exact Nat.ne_of_gt (by kp_flats) | exact Nat.ne_of_lt (by kp_flats) | exact Nat.ne_of_gt (by lsm_bools) | exact Nat.ne_of_lt (by lsm_bools))
  | ((with_reducible show @LT.lt Nat _ _ _); first | exact Nat.lt_of_lt_of_le (by with_reducible assumption) (Nat.le_of_ble_eq_true rfl) | exact Nat.le_of_ble_eq_true rfl | kp_flats | lsm_bools)
  | ((with_reducible show @LE.le Nat _ _ _); first | exact Nat.le_of_ble_eq_true rfl | exact Nat.le_trans (by with_reducible assumption) (Nat.le_of_ble_eq_true rfl) | exact Nat.le_of_lt (Nat.lt_of_lt_of_le (by with_reducible assumption) (Nat.le_of_ble_eq_true rfl)) | exact Nat.le_trans (Nat.le_of_eq (by with_reducible assumption)) (Nat.le_trans (by with_reducible assumption) (Nat.le_of_ble_eq_true rfl)) | exact Nat.le_of_lt (by kp_flats) | exact Nat.le_of_lt (by lsm_bools))
  | kct_strs
  | omega (splitDisjunctions := true))
/- kd_all: each of these lies in those -/
local macro_rules | `(tactic| kd_all) => `(tactic| ((repeat refine all_cons (by first | (with_reducible assumption) | k_mem) ?_); kst_all))
local macro_rules | `(tactic| kst_all) => `(tactic| first | (exact fun _ hp => hp) | assumption | exact all_nil | (refine mem_consAll ?_; kst_all))
/- members, bounds of frames, tests' outcomes, a def's start -/
local macro_rules | `(tactic| k_room) => `(tactic| ktr_room)
local macro_rules | `(tactic| k_mem) => `(tactic| first | exact List.mem_cons_self | (with_reducible assumption) | (refine List.mem_cons_of_mem _ ?_; k_mem))
local macro_rules | `(tactic| kst_p2) => `(tactic| first | assumption | ((simp only [beq_iff_eq, beq_eq_false_iff_ne, bne_iff_ne, ne_eq, decide_eq_true_eq, decide_eq_false_iff_not, List.size_toArray, List.length_append, List.length_cons, List.length_nil]); omega))
local macro_rules | `(tactic| tb_start) => `(tactic| ((case hvals => exact rfl); (case ho => k_is); (case hcd => k_is); (case hD => omega); (case hbind => exact rfl); (case hall => kernel_rfl!); (case hnd => decide +kernel); (case hco => exact rfl); (case hgen => exact rfl); (case hk => exact rfl); (case hcell => decide)))
local macro_rules | `(tactic| tlg_ne) => `(tactic| exact ⟨by intro h; first | exact absurd h (by decide) | exact Nat.le_of_ble_eq_true rfl, by intro h; first | exact absurd h (by decide) | exact Nat.le_of_ble_eq_true rfl, by intro h; first | exact absurd h (by decide) | exact Nat.le_of_ble_eq_true rfl⟩)
local macro_rules | `(tactic| kst_p) => `(tactic| repeat' (first | exact IntsAre.nil | refine' IntsAre.cons _ _ ?_))
/- what follows a step: names for what the rule hands on -/
local macro_rules | `(tactic| walk_at "pif") => `(tactic| (refine if_s ?_ ?_ <;> (intro hc'; (try simp only [decide_eq_true_eq, decide_eq_false_iff_not, beq_iff_eq, beq_eq_false_iff_ne, bne_iff_ne, ne_eq] at hc'))))
local macro_rules | `(tactic| walk_at "p1") => `(tactic| (intro D' h' F' N' l1; (try dsimp only [AllLt] at l1); k_sweep))
local macro_rules | `(tactic| walk_at "p2") => `(tactic| (intro h' es' n' F' N' hA' hl'; (try dsimp only at N'); (try replace hl' := Nat.le_trans hl' (Nat.succ_le_succ (by with_reducible assumption))); k_sweep))
local macro_rules | `(tactic| walk_at "p3") => `(tactic| (intro D' h' o' F' N' l1 lo' hd'; (try dsimp only [AllLt] at l1); k_sweep))
local macro_rules | `(tactic| walk_at "p4") => `(tactic| (intro h' o' F' N' hd'; (try dsimp only at N'); k_sweep))
local macro_rules | `(tactic| walk_at "p7") => `(tactic| walk_at "p4")
local macro_rules | `(tactic| walk_at "p5") => `(tactic| (rintro v' h' tk' news' F' N' ⟨D', fs', vsF', nF', e1', e2', l1, e3', e4'⟩; subst e1'; subst e2'; (try dsimp only [AllLt] at l1); k_sweep))
local macro_rules | `(tactic| walk_at "p9") => `(tactic| (intro h' F' N'; k_sweep; (try dsimp only [List.set_cons_zero, List.set_cons_succ] at F'); (try dsimp only)))
local macro_rules | `(tactic| walk_at "p12") => `(tactic| (intro h' o' tk' F' N' hd'; (try dsimp only at N'); k_sweep))
/- a node of the table -/
local macro_rules | `(tactic| kst_p1) => `(tactic| first | exact NodeOk.not _ ⟨by omega, by omega⟩ | exact NodeOk.xor _ _ ⟨by omega, by omega⟩ ⟨by omega, by omega⟩ | exact NodeOk.imp _ _ ⟨by omega, by omega⟩ ⟨by omega, by omega⟩ | exact NodeOk.eqq _ _ ⟨by omega, by omega⟩ ⟨by omega, by omega⟩ | exact NodeOk.ite _ _ _ ⟨by omega, by omega⟩ ⟨by omega, by omega⟩ ⟨by omega, by omega⟩ | exact NodeOk.and _ _ _ ⟨by omega, by omega⟩ ⟨by omega, by omega⟩ ⟨by omega, by omega⟩ | exact NodeOk.or _ _ _ ⟨by omega, by omega⟩ ⟨by omega, by omega⟩ ⟨by omega, by omega⟩ | exact NodeOk.dis2 _ _ ⟨by omega, by omega⟩ ⟨by omega, by omega⟩ | exact NodeOk.dis3 _ _ _ ⟨by omega, by omega⟩ ⟨by omega, by omega⟩ ⟨by omega, by omega⟩)
example (w : World) (h : Heap) : (heapK w.params).In h → PySem.Challenge.rw_qz0034_01.name = PySem.Challenge.rw_qz0034_01.name := by k_fill; intro _; rfl
/- KF -/
theorem ak_term_ops (P : Params) : AttrOk (heapK P) 782 (Str.ofString "term_ops") := ⟨by k_is, by k_is, _, by k_is, by k_is⟩
theorem ak_term_args (P : Params) : AttrOk (heapK P) 782 (Str.ofString "term_args") := ⟨by k_is, by k_is, _, by k_is, by k_is⟩
theorem ak_term_sorts (P : Params) : AttrOk (heapK P) 782 (Str.ofString "term_sorts") := ⟨by k_is, by k_is, _, by k_is, by k_is⟩
theorem ak_term_datas (P : Params) : AttrOk (heapK P) 782 (Str.ofString "term_datas") := ⟨by k_is, by k_is, _, by k_is, by k_is⟩
theorem ak_numbers (P : Params) : AttrOk (heapK P) 782 (Str.ofString "numbers") := ⟨by k_is, by k_is, _, by k_is, by k_is⟩
theorem ak_sort_widths (P : Params) : AttrOk (heapK P) 782 (Str.ofString "sort_widths") := ⟨by k_is, by k_is, _, by k_is, by k_is⟩
theorem ak_fun_results (P : Params) : AttrOk (heapK P) 782 (Str.ofString "fun_results") := ⟨by k_is, by k_is, _, by k_is, by k_is⟩
theorem ak_true_number (P : Params) : AttrOk (heapK P) 782 (Str.ofString "true_number") := ⟨by k_is, by k_is, _, by k_is, by k_is⟩
theorem ak_false_number (P : Params) : AttrOk (heapK P) 782 (Str.ofString "false_number") := ⟨by k_is, by k_is, _, by k_is, by k_is⟩
theorem am_bank (P : Params) : AttrOk (heapK P) 865 (Str.ofString "bank") := ⟨by k_is, by k_is, _, by k_is, by k_is⟩
theorem am_tables (P : Params) : AttrOk (heapK P) 865 (Str.ofString "tables") := ⟨by k_is, by k_is, _, by k_is, by k_is⟩
theorem am_others (P : Params) : AttrOk (heapK P) 865 (Str.ofString "others") := ⟨by k_is, by k_is, _, by k_is, by k_is⟩
theorem mk_make (P : Params) : MethOk (heapK P) 782 (Str.ofString "make") 396 := ⟨by k_is, by k_is, by k_is, by k_is⟩
theorem mk_want (P : Params) : MethOk (heapK P) 782 (Str.ofString "want") 417 := ⟨by k_is, by k_is, by k_is, by k_is⟩
theorem mk_want_all (P : Params) : MethOk (heapK P) 782 (Str.ofString "want_all") 424 := ⟨by k_is, by k_is, by k_is, by k_is⟩
theorem mk_bool_term (P : Params) : MethOk (heapK P) 782 (Str.ofString "bool_term") 445 := ⟨by k_is, by k_is, by k_is, by k_is⟩
theorem mk_not_of (P : Params) : MethOk (heapK P) 782 (Str.ofString "not_of") 480 := ⟨by k_is, by k_is, by k_is, by k_is⟩
theorem mk_and_of (P : Params) : MethOk (heapK P) 782 (Str.ofString "and_of") 487 := ⟨by k_is, by k_is, by k_is, by k_is⟩
theorem mk_or_of (P : Params) : MethOk (heapK P) 782 (Str.ofString "or_of") 494 := ⟨by k_is, by k_is, by k_is, by k_is⟩
theorem mk_xor_of (P : Params) : MethOk (heapK P) 782 (Str.ofString "xor_of") 501 := ⟨by k_is, by k_is, by k_is, by k_is⟩
theorem mk_implies_of (P : Params) : MethOk (heapK P) 782 (Str.ofString "implies_of") 508 := ⟨by k_is, by k_is, by k_is, by k_is⟩
theorem mk_eq (P : Params) : MethOk (heapK P) 782 (Str.ofString "eq") 522 := ⟨by k_is, by k_is, by k_is, by k_is⟩
theorem mk_distinct (P : Params) : MethOk (heapK P) 782 (Str.ofString "distinct") 529 := ⟨by k_is, by k_is, by k_is, by k_is⟩
theorem mk_ite (P : Params) : MethOk (heapK P) 782 (Str.ofString "ite") 536 := ⟨by k_is, by k_is, by k_is, by k_is⟩
theorem mk_op (P : Params) : MethOk (heapK P) 782 (Str.ofString "op") 354 := ⟨by k_is, by k_is, by k_is, by k_is⟩
theorem mk_args (P : Params) : MethOk (heapK P) 782 (Str.ofString "args") 361 := ⟨by k_is, by k_is, by k_is, by k_is⟩
theorem mk_sort (P : Params) : MethOk (heapK P) 782 (Str.ofString "sort") 368 := ⟨by k_is, by k_is, by k_is, by k_is⟩
theorem mk_data (P : Params) : MethOk (heapK P) 782 (Str.ofString "data") 375 := ⟨by k_is, by k_is, by k_is, by k_is⟩
theorem mk_width (P : Params) : MethOk (heapK P) 782 (Str.ofString "width") 382 := ⟨by k_is, by k_is, by k_is, by k_is⟩
theorem mk_parts (P : Params) : MethOk (heapK P) 782 (Str.ofString "parts") 452 := ⟨by k_is, by k_is, by k_is, by k_is⟩
theorem mk_parts_of_all (P : Params) : MethOk (heapK P) 782 (Str.ofString "parts_of_all") 459 := ⟨by k_is, by k_is, by k_is, by k_is⟩
theorem mk_fun_result (P : Params) : MethOk (heapK P) 782 (Str.ofString "fun_result") 340 := ⟨by k_is, by k_is, by k_is, by k_is⟩
theorem mm_set_row (P : Params) : MethOk (heapK P) 865 (Str.ofString "set_row") 813 := ⟨by k_is, by k_is, by k_is, by k_is⟩
theorem mm_other (P : Params) : MethOk (heapK P) 865 (Str.ofString "other") 841 := ⟨by k_is, by k_is, by k_is, by k_is⟩
theorem mm_call (P : Params) : MethOk (heapK P) 865 (Str.ofString "call") 848 := ⟨by k_is, by k_is, by k_is, by k_is⟩
theorem mm_value (P : Params) : MethOk (heapK P) 865 (Str.ofString "value") 855 := ⟨by k_is, by k_is, by k_is, by k_is⟩
theorem fk_law_next (P : Params) : FunOk (heapK P) (Str.ofString "_law_next") 921 := ⟨by k_is, by k_is⟩
theorem fk_law_worth (P : Params) : FunOk (heapK P) (Str.ofString "_law_worth") 928 := ⟨by k_is, by k_is⟩
theorem fk_law_words_right (P : Params) : FunOk (heapK P) (Str.ofString "_law_words_right") 933 := ⟨by k_is, by k_is⟩
theorem fk_law_formula (P : Params) : FunOk (heapK P) (Str.ofString "_law_formula") 940 := ⟨by k_is, by k_is⟩
theorem fk_law_values (P : Params) : FunOk (heapK P) (Str.ofString "_law_values") 945 := ⟨by k_is, by k_is⟩
theorem fk_connected (P : Params) : FunOk (heapK P) (Str.ofString "connected") 897 := ⟨by k_is, by k_is⟩
theorem fk_worked_out (P : Params) : FunOk (heapK P) (Str.ofString "worked_out") 902 := ⟨by k_is, by k_is⟩
theorem fk_evaluate (P : Params) : FunOk (heapK P) (Str.ofString "evaluate") 909 := ⟨by k_is, by k_is⟩
theorem fk_evaluate_all (P : Params) : FunOk (heapK P) (Str.ofString "evaluate_all") 914 := ⟨by k_is, by k_is⟩
theorem fk_plain_value (P : Params) : FunOk (heapK P) (Str.ofString "plain_value") 792 := ⟨by k_is, by k_is⟩
theorem bk_len (P : Params) : nsIn (heapK P) mainGlobals (Str.ofString "len") = some none := by k_is
theorem bb_len : bootBuiltins (Str.ofString "len") = some (.builtin "len") := by boot_by_name
theorem bn_len : Str.ofString "len" ≠ Str.ofString "__name__" := by decide
theorem gk_BOOL (P : Params) : ∃ t, GlobOk (heapK P) (Str.ofString "BOOL") (.int 0 t) := ⟨_, by unfold GlobOk; k_is⟩
/- N1 -/
set_option maxHeartbeats 8000000 in
theorem next_does (w : World) {D U : Nat} (hD : D < 500) (hU : U < 1000) {fd lst : Addr} {nc : Nat} {o : Obj} {vs : List Value} {ns : List Int} {k wide : Int} {tk tw : Tok} {rest : Led}
  (ho : o.IsDictOf (PySem.strKind PySem.Challenge.rw_qz0034_01.row.prog w) [(Str.ofString "cells", .ref lst), (Str.ofString "spot", .int k tk)]) (hi : IntsAre vs ns) (hlen : ns.length ≤ 60) (hk0 : 0 ≤ k) (hk1 : k < 1000) (hw : 0 < wide) (hw' : wide ≤ 11) (off : OwnOff rest [fd, lst]) (hne : @Ne Nat fd lst) (hlo : (fd == sysModules) = false) :
  Does w 921 [.ref fd, .int wide tw] D U ((fd, o) :: (lst, listOf vs.toArray nc) :: rest) (fun v news' => ∃ r tr tk1 o', v = .int r tr ∧ 0 ≤ r ∧ r < wide ∧ o'.IsDictOf (PySem.strKind PySem.Challenge.rw_qz0034_01.row.prog w) [(Str.ofString "cells", .ref lst), (Str.ofString "spot", .int (k+1) tk1)] ∧ news' = (fd, o') :: (lst, listOf vs.toArray nc) :: rest) := by
  refine' does_intro' (names := [Str.ofString "feed", Str.ofString "wide", Str.ofString "spot"]) (k := 1) (vals := [some (.ref fd), some (.int wide tw), none]) ?hvals ?ho ?hcd ?hD ?hbind ?hall ?hnd ?hco ?hgen ?hk ?hcell ?body
  tb_start
  intro K A0 base mean mg mb g L h gs dr os tk0 Q lv B X T F N lt hdp hun hq
  have hd1 := Nat.lt_of_le_of_lt hdp (Nat.add_lt_add_right hD 1)
  have hu1 := Nat.lt_of_le_of_lt hun (Nat.add_lt_add_right hU 3)
  show wpAny _ _ (execs (_ :: _) _) _ _ _
  have v0 := lv 0 (Str.ofString "feed") rfl
  have v1 := lv 1 (Str.ofString "wide") rfl
  have v2 := lv 2 (Str.ofString "spot") rfl
  clear lv
  have hsz : vs.length = ns.length := by have := hi.length; omega
  refine x_asg (h := ?_)
  refine Subscript_ ?_
  refine e_var (h := ?_)
  refine e_str (h := ?_)
  walk1
  refine s_var (h := ?_); walk_at "p9"
  refine x_setsub (h := ?_)
  refine wpAny_BinOp ?_
  refine e_var (h := ?_)
  refine e_int (h := ?_)
  walk1
  refine e_var (h := ?_)
  refine e_str (h := ?_)
  walk1
  refine x_if (h := ?_)
  refine t_cmp (h := ?_)
  refine e_var (h := ?_)
  refine e_bcall (hk := (bk_len _)) (hb := bb_len) (hne := bn_len) (h := ?_)
  refine wa_cons (h := ?_)
  refine Subscript_ ?_
  refine e_var (h := ?_)
  refine e_str (h := ?_)
  walk1
  refine wa_nil (h := ?_)
  refine c_len (hz := by (first | (exact Nat.le_of_ble_eq_true rfl) | ((simp only [List.size_toArray, Array.size_push]); omega))) (h := ?_); try dsimp only
  refine lt_int ?_
  refine truthy_b (h := ?_)
  walk_at "pif"
  focus
    refine x_ret (h := ?_)
    refine wpAny_BinOp ?_
    refine Subscript_ ?_
    refine Subscript_ ?_
    refine e_var (h := ?_)
    refine e_str (h := ?_)
    walk1
    refine e_var (h := ?_)
    walk1
    refine e_var (h := ?_)
    walk1
  rotate_left
  focus
    refine x_ret (h := ?_)
    refine wpAny_BinOp ?_
    refine wpAny_BinOp ?_
    refine wpAny_BinOp ?_
    refine wpAny_BinOp ?_
    refine wpAny_BinOp ?_
    refine wpAny_BinOp ?_
    refine wpAny_BinOp ?_
    refine e_int (h := ?_)
    refine e_var (h := ?_)
    walk1
    refine e_var (h := ?_)
    walk1
    refine wpAny_BinOp ?_
    refine e_int (h := ?_)
    refine e_var (h := ?_)
    walk1
    walk1
    refine e_int (h := ?_)
    walk1
    refine wpAny_BinOp ?_
    refine e_int (h := ?_)
    refine e_bcall (hk := (bk_len _)) (hb := bb_len) (hne := bn_len) (h := ?_)
    refine wa_cons (h := ?_)
    refine Subscript_ ?_
    refine e_var (h := ?_)
    refine e_str (h := ?_)
    walk1
    refine wa_nil (h := ?_)
    refine c_len (hz := by (first | (exact Nat.le_of_ble_eq_true rfl) | ((simp only [List.size_toArray, Array.size_push]); omega))) (h := ?_); try dsimp only
    walk1
    walk1
    refine e_int (h := ?_)
    walk1
    refine e_var (h := ?_)
    walk1
  rotate_left
  all_goals (refine hq _ _ (back (by assumption) (by assumption) rfl ⟨_, _, _, _, rfl, ?_, ?_, by assumption, rfl⟩))
  all_goals first | (exact Int.fmod_nonneg_of_pos _ hw) | (exact Int.fmod_lt_of_pos _ hw)
/- N3 -/
/-- what making asks of the bank's own attributes -/
structure BA.Ok0 (a : BA) : Prop where
  c1 : @LT.lt Nat _ a.bd a.bk
  c2 : @LT.lt Nat _ a.bk a.sw
  c3 : @LT.lt Nat _ a.sw a.fr
  c4 : @LT.lt Nat _ a.fr a.to
  c5 : @LT.lt Nat _ a.to a.ta
  c6 : @LT.lt Nat _ a.ta a.ts
  c7 : @LT.lt Nat _ a.ts a.td
  c8 : @LT.lt Nat _ a.td a.nm
  lo : (a.nm == sysModules) = false
  g3 : getL (Str.ofString "term_ops") a.es = some (some (.ref a.to))
  g4 : getL (Str.ofString "term_args") a.es = some (some (.ref a.ta))
  g5 : getL (Str.ofString "term_sorts") a.es = some (some (.ref a.ts))
  g6 : getL (Str.ofString "term_datas") a.es = some (some (.ref a.td))
  g7 : getL (Str.ofString "numbers") a.es = some (some (.ref a.nm))
theorem BA.Ok.ok0 {a : BA} (h : a.Ok) : a.Ok0 := ⟨h.c1, h.c2, h.c3, h.c4, h.c5, h.c6, h.c7, h.c8, h.lo, h.g3, h.g4, h.g5, h.g6, h.g7⟩
/-- the same keys elsewhere -/
theorem Nums.at_led {w : World} {led led' lx : Led} {o o' : Obj} {xs : List (Key × Addr × Value)} {op : Str} {as : List Int} {d : Int} {D c : Addr} {v : Value} {t1 t2 t3 : Tok} {n : Nat}
    (h : Nums w lx o' (storedH xs (op, as, d) D v)) (h0 : Nums w led o xs) (hc : IntTup led as c) (hs : ∀ p ∈ led, p ∈ led') (hD : (D, tup [.str op t1, .ref c, .int 0 t2, .int d t3] n) ∈ led') : Nums w led' o' (storedH xs (op, as, d) D v) := by
  refine ⟨h.ex, h.dat, fun x hx => ?_, h.nd⟩
  have hk : KeyIn led' (op, as, d) D := ⟨t1, t2, t3, c, n, hD, hc.mono hs⟩
  unfold storedH at hx
  split at hx
  · obtain ⟨y, hy, rfl⟩ := List.mem_map.mp hx
    unfold putAt
    split <;> exact (h0.keys y hy).mono hs
  · rcases List.mem_append.mp hx with hx | hx
    · exact (h0.keys x hx).mono hs
    · rw [List.mem_singleton.mp hx]; exact hk
theorem Bank.pushed_led {w : World} {led rest : Led} {b : BS} {op : Str} {as : List Int} {d : Int} {c D : Addr} {o' : Obj} {tO tS tD t t1 t2 t3 : Tok} {n : Nat} (hl : Bank w led b) (hc : IntTup led as c) (hn : atKey b.xs (op, as, d) = none)
    (hN : Nums w ((D, tup [.str op t1, .ref c, .int 0 t2, .int d t3] n) :: rest) o' (storedH b.xs (op, as, d) D (.int (b.ops.toArray.size : Nat) t))) (hm : (D, tup [.str op t1, .ref c, .int 0 t2, .int d t3] n) ∈ led) : Bank w led (b.push op as d c D tO tS tD t o') := by
  refine (hl.pushed (t1 := t1) (t2 := t2) (t3 := t3) (n := n) (tO := tO) (tS := tS) (tD := tD) hc hn (hN.at_led hl.nums hc (fun p hp => .tail _ hp) (.head _))).mono fun p hp => ?_
  rcases List.mem_cons.mp hp with rfl | hp
  · exact hm
  · exact hp
set_option maxHeartbeats 8000000 in
theorem make_does (w : World) {D U : Nat} (hD : D < 500) (hU : U < 1000) {a : BA} {b : BS} {rest : Led} {op : Str} {tO tS tD : Tok} {c : Addr} {as : List Int} {d : Int}
  (hA : a.Ok0) (hB : Bank w rest b) (hlen : b.T.length ≤ 1000) (off : OwnOff rest a.adr) (hc : IntTup rest as c) :
  Does w 396 [.ref a.bk, .str op tO, .ref c, .int 0 tS, .int d tD] D U (BL a b ++ rest) (fun v news' => ∃ (n : Nat) (t : Tok) (b' : BS) (tl : Led), v = .int n t ∧ news' = BL a b' ++ (tl ++ rest) ∧ Bank w (tl ++ rest) b' ∧ (b'.T = b.T ∨ b'.T = b.T ++ [(op, as, d)]) ∧ 1 ≤ n ∧ b'.T[n]? = some (op, as, d) ∧ Fresh tl (BL a b ++ rest) ∧ ∀ led : Led, Bank w led b → (∀ p ∈ tl, p ∈ led) → IntTup led as c → Bank w led b') := by
  refine' does_intro' (names := [Str.ofString "self", Str.ofString "op", Str.ofString "args", Str.ofString "sort", Str.ofString "data", Str.ofString "key", Str.ofString "found"]) (k := 2) (vals := [some (.ref a.bk), some (.str op tO), some (.ref c), some (.int 0 tS), some (.int d tD), none, none]) ?hvals ?ho ?hcd ?hD ?hbind ?hall ?hnd ?hco ?hgen ?hk ?hcell ?body
  tb_start
  intro K A0 base mean mg mb g L h gs dr os tk0 Q lv B X T F N lt hdp hun hq
  have hd1 := Nat.lt_of_le_of_lt hdp (Nat.add_lt_add_right hD 1)
  have hu1 := Nat.lt_of_le_of_lt hun (Nat.add_lt_add_right hU 3)
  show wpAny _ _ (execs (_ :: _) _) _ _ _
  have v0 := lv 0 (Str.ofString "self") rfl
  have v1 := lv 1 (Str.ofString "op") rfl
  have v2 := lv 2 (Str.ofString "args") rfl
  have v3 := lv 3 (Str.ofString "sort") rfl
  have v4 := lv 4 (Str.ofString "data") rfl
  have v5 := lv 5 (Str.ofString "key") rfl
  have v6 := lv 6 (Str.ofString "found") rfl
  clear lv
  obtain ⟨bk, bd, sw, fr, to, ta, ts, td, nm, es, nE, swO, frO⟩ := a
  obtain ⟨c1, c2, c3, c4, c5, c6, c7, c8, lo, g3, g4, g5, g6, g7⟩ := hA
  dsimp only [BL, BA.adr, List.cons_append, List.nil_append] at *
  have hNu := hB.nums
  have hl1 := hB.ops.1
  have hl2 := hB.args.1
  have hl3 := hB.sorts.1
  have hl4 := hB.datas.1
  have hl5 := hB.len
  refine x_asg (h := ?_)
  refine e_tup (h := ?_)
  refine wa_v (h := ?_)
  refine wa_v (h := ?_)
  refine wa_v (h := ?_)
  refine wa_v1 (h := ?_)
  refine n_tup (h := ?_); walk_at "p1"
  refine s_var (h := ?_); walk_at "p9"
  refine x_asg (h := ?_)
  (refine' e_ameth ?Fz48 ?Nz48 ?Xz48 ?lz48 ?vz48 ?oz48 ?dz48 ?az48 ?kz48 ?nz48 ?ez48 ?zz48 ?pz48 (fun pl R h => nums_method PySem.F.slot_dict_get PySem.F.type_dict_get ?N2z48 ?Hz48 ?mz48 h) ?_; (case Fz48 => with_reducible assumption); (case Nz48 => with_reducible assumption); (case Xz48 => with_reducible assumption); (case lz48 => with_reducible assumption); (case vz48 => exact rfl); (case oz48 => k_mem); (case dz48 => k_mem); (case az48 => with_reducible assumption); (case kz48 => exact ak_numbers _); (case nz48 => exact rfl); (case ez48 => exact rfl); (case zz48 => exact rfl); (case pz48 => exact rfl); (case N2z48 => with_reducible assumption); (case Hz48 => with_reducible assumption); (case mz48 => k_mem))
  refine wa_v (h := ?_)
  refine wa_cons (h := ?_)
  refine e_int (h := ?_)
  refine wa_nil (h := ?_)
  refine bank_get (h0 := ?_) (h1 := ?_)
  rotate_left
  rotate_left
  · intro hn
    (try dsimp only)
    refine s_var (h := ?_); walk_at "p9"
    refine x_ifi (h := ?_)
    refine if_t (hc := (by kernel_rfl!)) (h := ?_)
    refine x_asg (h := ?_)
    refine e_bcall (hk := (bk_len _)) (hb := bb_len) (hne := bn_len) (h := ?_)
    refine wa_cons (h := ?_)
    refine e_attr (hk := ak_term_ops _) (h := ?_)
    refine wa_nil (h := ?_)
    refine c_len (hz := by (first | (exact Nat.le_of_ble_eq_true rfl) | ((simp only [List.size_toArray, Array.size_push]); omega))) (h := ?_); try dsimp only
    refine s_var (h := ?_); walk_at "p9"
    refine x_exprN (h := ?_)
    (refine' e_ameth ?Fz49 ?Nz49 ?Xz49 ?lz49 ?vz49 ?oz49 ?dz49 ?az49 ?kz49 ?nz49 ?ez49 ?zz49 ?pz49 (fun pl R h => gm_list PySem.F.slot_list_append PySem.F.type_list_append ?N2z49 ?mz49 h) ?_; (case Fz49 => with_reducible assumption); (case Nz49 => with_reducible assumption); (case Xz49 => with_reducible assumption); (case lz49 => with_reducible assumption); (case vz49 => exact rfl); (case oz49 => k_mem); (case dz49 => k_mem); (case az49 => with_reducible assumption); (case kz49 => exact ak_term_ops _); (case nz49 => exact rfl); (case ez49 => exact rfl); (case zz49 => exact rfl); (case pz49 => exact rfl); (case N2z49 => with_reducible assumption); (case mz49 => k_mem))
    refine wa_v1 (h := ?_)
    refine c_append (hz := by ((simp only [List.size_toArray, Array.size_push]); omega)) (h := ?_); intro _ _ _; k_sweep; refine ⟨rfl, ?_⟩
    refine x_exprN (h := ?_)
    (refine' e_ameth ?Fz50 ?Nz50 ?Xz50 ?lz50 ?vz50 ?oz50 ?dz50 ?az50 ?kz50 ?nz50 ?ez50 ?zz50 ?pz50 (fun pl R h => gm_list PySem.F.slot_list_append PySem.F.type_list_append ?N2z50 ?mz50 h) ?_; (case Fz50 => with_reducible assumption); (case Nz50 => with_reducible assumption); (case Xz50 => with_reducible assumption); (case lz50 => with_reducible assumption); (case vz50 => exact rfl); (case oz50 => k_mem); (case dz50 => k_mem); (case az50 => with_reducible assumption); (case kz50 => exact ak_term_args _); (case nz50 => exact rfl); (case ez50 => exact rfl); (case zz50 => exact rfl); (case pz50 => exact rfl); (case N2z50 => with_reducible assumption); (case mz50 => k_mem))
    refine wa_v1 (h := ?_)
    refine c_append (hz := by ((simp only [List.size_toArray, Array.size_push]); omega)) (h := ?_); intro _ _ _; k_sweep; refine ⟨rfl, ?_⟩
    refine x_exprN (h := ?_)
    (refine' e_ameth ?Fz51 ?Nz51 ?Xz51 ?lz51 ?vz51 ?oz51 ?dz51 ?az51 ?kz51 ?nz51 ?ez51 ?zz51 ?pz51 (fun pl R h => gm_list PySem.F.slot_list_append PySem.F.type_list_append ?N2z51 ?mz51 h) ?_; (case Fz51 => with_reducible assumption); (case Nz51 => with_reducible assumption); (case Xz51 => with_reducible assumption); (case lz51 => with_reducible assumption); (case vz51 => exact rfl); (case oz51 => k_mem); (case dz51 => k_mem); (case az51 => with_reducible assumption); (case kz51 => exact ak_term_sorts _); (case nz51 => exact rfl); (case ez51 => exact rfl); (case zz51 => exact rfl); (case pz51 => exact rfl); (case N2z51 => with_reducible assumption); (case mz51 => k_mem))
    refine wa_v1 (h := ?_)
    refine c_append (hz := by ((simp only [List.size_toArray, Array.size_push]); omega)) (h := ?_); intro _ _ _; k_sweep; refine ⟨rfl, ?_⟩
    refine x_exprN (h := ?_)
    (refine' e_ameth ?Fz52 ?Nz52 ?Xz52 ?lz52 ?vz52 ?oz52 ?dz52 ?az52 ?kz52 ?nz52 ?ez52 ?zz52 ?pz52 (fun pl R h => gm_list PySem.F.slot_list_append PySem.F.type_list_append ?N2z52 ?mz52 h) ?_; (case Fz52 => with_reducible assumption); (case Nz52 => with_reducible assumption); (case Xz52 => with_reducible assumption); (case lz52 => with_reducible assumption); (case vz52 => exact rfl); (case oz52 => k_mem); (case dz52 => k_mem); (case az52 => with_reducible assumption); (case kz52 => exact ak_term_datas _); (case nz52 => exact rfl); (case ez52 => exact rfl); (case zz52 => exact rfl); (case pz52 => exact rfl); (case N2z52 => with_reducible assumption); (case mz52 => k_mem))
    refine wa_v1 (h := ?_)
    refine c_append (hz := by ((simp only [List.size_toArray, Array.size_push]); omega)) (h := ?_); intro _ _ _; k_sweep; refine ⟨rfl, ?_⟩
    refine x_setsub (h := ?_)
    refine e_var (h := ?_)
    refine e_attr (hk := ak_numbers _) (h := ?_)
    refine e_var (h := ?_)
    refine nums_set' (hsz := by (rw [sizeLine_eq]; omega)) (h := ?_); walk_at "p7"
    refine x_nil_thn (h := ?_)
    refine x_ret (h := ?_)
    refine e_var (h := ?_)
    rename Nums w (_ :: rest) _ _ => hNu2
    rename _ ∧ _ => l1
    rename Fr g L _ _ => F2
    rename News g L _ _ => N2
    simp only [List.push_toArray] at N2
    have hP := hB.pushed (tO := tO) (tS := tS) (tD := tD) hc hn hNu2
    refine hq _ _ (back F2 (swap1 (a := ⟨bk, bd, sw, fr, to, ta, ts, td, nm, es, nE, swO, frO⟩) (b := b.push op as d c _ tO tS tD _ _) N2) rfl ⟨b.ops.toArray.size, _, _, _, rfl, rfl, hP, .inr rfl, ?_, ?_, ?_, ?_⟩)
    · have := hB.pos; simp only [List.size_toArray]; omega
    · simp only [BS.push, List.size_toArray, hl1, List.getElem?_concat_length]
    · intro p hp
      rw [List.mem_singleton.mp hp]
      exact l1
    · intro led hl hm hcl
      have hm' := hm _ (.head _)
      exact hl.pushed_led hcl hn hNu2 hm'
  · intro kf tf hk1 hk2
    (try dsimp only)
    refine s_var (h := ?_); walk_at "p9"
    refine x_ifi (h := ?_)
    refine if_f (hc := (by kst_p2)) (h := ?_)
    refine x_ret (h := ?_)
    refine e_var (h := ?_)
    rename _ ∧ _ => l1
    rename Fr g L _ _ => F2
    rename News g L _ _ => N2
    refine hq _ _ (back F2 (swap1 (a := ⟨bk, bd, sw, fr, to, ta, ts, td, nm, es, nE, swO, frO⟩) (b := b) N2) rfl ⟨_, _, b, _, rfl, rfl, hB.mono fun _ hp => .tail _ hp, .inl rfl, hk1, hk2, ?_, fun led hl _ _ => hl⟩)
    intro p hp
    rw [List.mem_singleton.mp hp]
    exact l1
/- N4 -/
set_option maxHeartbeats 8000000 in
theorem want_does (w : World) {D U : Nat} (hD : D < 500) (hU : U < 1000) {a : BA} {b : BS} {rest news : Led} {n : Nat} {tn t0 t1 : Tok} {wh : Str} {k : Key}
  (hA : a.Ok) (hB : Bank w rest b) (hlen : b.T.length ≤ 1000) (hsub : ∀ p ∈ BL a b ++ rest, p ∈ news) (ht : b.T[n]? = some k) :
  Does w 417 [.ref a.bk, .int n tn, .int 0 t0, .str wh t1] D U news (fun v news' => v = .none ∧ news' = news) := by
  refine' does_intro' (names := [Str.ofString "self", Str.ofString "t", Str.ofString "s", Str.ofString "where"]) (k := 0) (vals := [some (.ref a.bk), some (.int n tn), some (.int 0 t0), some (.str wh t1)]) ?hvals ?ho ?hcd ?hD ?hbind ?hall ?hnd ?hco ?hgen ?hk ?hcell ?body
  tb_start
  intro K A0 base mean mg mb g L h gs dr os tk0 Q lv B X T F N lt hdp hun hq
  have hd1 := Nat.lt_of_le_of_lt hdp (Nat.add_lt_add_right hD 1)
  have hu1 := Nat.lt_of_le_of_lt hun (Nat.add_lt_add_right hU 3)
  show wpAny _ _ (execs (_ :: _) _) _ _ _
  have v0 := lv 0 (Str.ofString "self") rfl
  have v1 := lv 1 (Str.ofString "t") rfl
  have v2 := lv 2 (Str.ofString "s") rfl
  have v3 := lv 3 (Str.ofString "where") rfl
  clear lv
  obtain ⟨bk, bd, sw, fr, to, ta, ts, td, nm, es, nE, swO, frO⟩ := a
  obtain ⟨c1, c2, c3, c4, c5, c6, c7, c8, lo, htn, hfn, g1, g2, g3, g4, g5, g6, g7, hno⟩ := hA
  dsimp only [BL, BA.adr, List.cons_append, List.nil_append] at *
  have m1 := hsub _ (.head _)
  have m2 := hsub _ (.tail _ (.head _))
  have m3 := hsub _ (.tail _ (.tail _ (.head _)))
  have m4 := hsub _ (.tail _ (.tail _ (.tail _ (.head _))))
  have m5 := hsub _ (.tail _ (.tail _ (.tail _ (.tail _ (.head _)))))
  have m6 := hsub _ (.tail _ (.tail _ (.tail _ (.tail _ (.tail _ (.head _))))))
  have m7 := hsub _ (.tail _ (.tail _ (.tail _ (.tail _ (.tail _ (.tail _ (.head _)))))))
  have m8 := hsub _ (.tail _ (.tail _ (.tail _ (.tail _ (.tail _ (.tail _ (.tail _ (.head _))))))))
  have hsr : ∀ p ∈ rest, p ∈ news := fun p hp => hsub p (.tail _ (.tail _ (.tail _ (.tail _ (.tail _ (.tail _ (.tail _ (.tail _ (.tail _ hp)))))))))
  have hn : n < b.T.length := (List.getElem?_eq_some_iff.mp ht).1
  refine x_if (h := ?_)
  refine t_cmp (h := ?_)
  refine Subscript_ ?_
  refine e_attr (hk := ak_term_sorts _) (h := ?_)
  refine e_var (h := ?_)
  refine c_sort (h := ?_); intro _
  refine e_var (h := ?_)
  refine ne_int ?_
  refine truthy_b (h := ?_)
  refine if_f (hc := (by kernel_rfl!)) (h := ?_)
  refine x_nil (h := ?_)
  exact hq _ _ (back (by assumption) (by assumption) rfl ⟨rfl, rfl⟩)
/- Mk -/
theorem OwnOff.cons {D : Addr} {o : Obj} {rest : Led} {adr : List Addr} (h : OwnOff rest adr) (k : ∀ b ∈ adr, @LT.lt Nat _ b D) : OwnOff ((D, o) :: rest) adr := by
  intro p hp b hb
  rcases List.mem_cons.mp hp with e | hp
  · rw [e]; exact Nat.ne_of_gt (k b hb)
  · exact h p hp b hb
theorem adr_lt {a : BA} {b : BS} {D : Addr} {rest : Led} (h : AllLt D (BL a b ++ rest)) : ∀ x ∈ a.adr, @LT.lt Nat _ x D := by
  have h' := AllLt.mem h
  intro x hx
  have : ∃ p ∈ BL a b, p.1 = x := by
    simp only [BA.adr, List.mem_cons, List.not_mem_nil, or_false] at hx
    simp only [BL, List.mem_cons, List.not_mem_nil, or_false]
    rcases hx with rfl | rfl | rfl | rfl | rfl | rfl | rfl | rfl | rfl
    · exact ⟨_, .inl rfl, rfl⟩
    · exact ⟨_, .inr (.inl rfl), rfl⟩
    · exact ⟨_, .inr (.inr (.inl rfl)), rfl⟩
    · exact ⟨_, .inr (.inr (.inr (.inl rfl))), rfl⟩
    · exact ⟨_, .inr (.inr (.inr (.inr (.inl rfl)))), rfl⟩
    · exact ⟨_, .inr (.inr (.inr (.inr (.inr (.inl rfl))))), rfl⟩
    · exact ⟨_, .inr (.inr (.inr (.inr (.inr (.inr (.inl rfl)))))), rfl⟩
    · exact ⟨_, .inr (.inr (.inr (.inr (.inr (.inr (.inr (.inl rfl))))))), rfl⟩
    · exact ⟨_, .inr (.inr (.inr (.inr (.inr (.inr (.inr (.inr rfl))))))), rfl⟩
  obtain ⟨p, hp, rfl⟩ := this
  exact h' p (List.mem_append_left _ hp)
theorem AllLt.of {d : Addr} {l : Led} (h : ∀ p ∈ l, @LT.lt Nat _ p.1 d) : AllLt d l := allLt_of h
theorem make_call {w : World} {dp un : Nat} {gd : Option (List Code)} {cn : Str} {cs : Scope} {L a' : Addr} {ccd : Value} {cl : List (Str × Addr)} {outer : List Env} {A₀ : Around} {base g : Heap} {mean : ExcName → Option Value} {mg mb : Str → Option Value} {m : Str → Option Value} {hp : Heap} {gs : Array GenState} {dr : Drawn} {tk : Nat} {os : OsState} {Q E : Value → Shared → Prop}
    {a : BA} {b : BS} {rest : Led} {op : Str} {tO tS tD : Tok} {D : Addr} {vs : List Value} {as : List Int} {d : Int}
    (B : Below A₀ base outer g) (X : (heapK w.params).In g) (T : Top viewK (looseW viewK [Str.ofString "MOST_BITS"]) mean mg mb g) (F : Fr g L hp m) (N : News g L hp ((D, tup vs 0) :: (BL a b ++ rest))) (hk : cs.kind = .function) (hdp : dp < 500) (hun : un < 1000)
    (hA : a.Ok) (hB : Bank w rest b) (wf : Wf b.T) (hlen : b.T.length ≤ 999) (off : OwnOff rest a.adr) (hi : IntsAre vs as) (l1 : AllLt D (BL a b ++ rest)) (hnode : NodeOk b.T.length (op, as, d)) {xb : Addr} (hxb : a.bk = xb)
    (h : ∀ v h' tk news', Fr g L h' m → News g L h' news' → TermPost w a b rest v news' → Q v ⟨h', gs, dr, tk, os⟩) :
    wpAny (model PRG w) (ktrTop dp un gd cn cs L a' ccd cl outer) (call (.ref 396) [.ref xb, .str op tO, .ref D, .int 0 tS, .int d tD]) Q E ⟨hp, gs, dr, tk, os⟩ := by
  subst hxb
  refine Does.use (s := ⟨hp, gs, dr, tk, os⟩) (make_does w (rest := [(D, tup vs 0)] ++ rest) hdp hun hA.ok0 (hB.mono fun _ hp => .tail _ hp) (by omega) (OwnOff.cons off (adr_lt l1)) ⟨vs, 0, .head _, hi⟩) B X T F (swap1 N) hk (Nat.le_refl _) (Nat.le_refl _) ?_
  rintro v h' tk' news' F' N' ⟨n, t, b', tl, rfl, rfl, hB', hT, h1, hn, hf, -⟩
  have hlt : n < b'.T.length := (List.getElem?_eq_some_iff.mp hn).1
  have hfr : Fresh (tl ++ [(D, tup vs 0)]) (BL a b ++ rest) := by
    intro p hp
    rcases List.mem_append.mp hp with hp | hp
    · exact AllLt.of fun q hq => AllLt.mem (hf p hp) q (by
        rcases List.mem_append.mp hq with hq | hq
        · exact List.mem_append_left _ hq
        · exact List.mem_append_right _ (.tail _ hq))
    · rw [List.mem_singleton.mp hp]; exact l1
  refine h _ _ _ _ F' N' ⟨n, t, b', tl ++ [(D, tup vs 0)], rfl, by rw [List.append_assoc], by rw [List.append_assoc]; exact hB', ?_, ?_, ?_, ⟨h1, hlt⟩, hfr⟩
  · rcases hT with e | e
    · rw [e]; exact wf
    · rw [e]; exact wf.push hnode
  · rcases hT with e | e <;> rw [e] <;> simp
  · rcases hT with e | e <;> rw [e] <;> simp
theorem term_same {w : World} {a : BA} {b : BS} {rest : Led} {n : Nat} {t : Tok} (hB : Bank w rest b) (wf : Wf b.T) (hn : Tn b.T n) : TermPost w a b rest (.int n t) (BL a b ++ rest) :=
  ⟨n, t, b, [], rfl, rfl, hB, wf, Nat.le_refl _, Nat.le_succ _, hn, fun _ hp => nomatch hp⟩
theorem Does.use' {w : World} {f : Addr} {args args' : List Value} {D U : Nat} {news : Led} {Post : Value → Led → Prop} (d : Does w f args' D U news Post) (ha : args' = args)
    {dp un : Nat} {gd : Option (List Code)} {cn : Str} {cs : Scope} {L a : Addr} {ccd : Value} {cl : List (Str × Addr)} {outer : List Env} {A₀ : Around} {base g : Heap} {mean : ExcName → Option Value} {mg mb : Str → Option Value} {m : Str → Option Value} {hp : Heap} {gs : Array GenState} {dr : Drawn} {tk : Nat} {os : OsState} {Q E : Value → Shared → Prop}
    (B : Below A₀ base outer g) (X : (heapK w.params).In g) (T : Top viewK (looseW viewK [Str.ofString "MOST_BITS"]) mean mg mb g) (F : Fr g L hp m) (N : News g L hp news) (hk : cs.kind = .function) (hdp : dp ≤ D) (hun : un ≤ U)
    (ret : ∀ v h' tk news', Fr g L h' m → News g L h' news' → Post v news' → Q v ⟨h', gs, dr, tk, os⟩) :
    wpAny (model PRG w) (ktrTop dp un gd cn cs L a ccd cl outer) (call (.ref f) args) Q E ⟨hp, gs, dr, tk, os⟩ := by
  subst ha
  exact Does.use (s := ⟨hp, gs, dr, tk, os⟩) d B X T F N hk hdp hun ret
theorem News.perm_dummy : True := trivial
theorem TermPost.drop {w : World} {a : BA} {b : BS} {rest : Led} {v : Value} {news' : Led} {D : Addr} {o : Obj} (h : TermPost w a b ((D, o) :: rest) v news') (l : AllLt D (BL a b ++ rest)) : TermPost w a b rest v news' := by
  obtain ⟨n, t, b', tl, e1, e2, h1, h2, h3, h4, h5, h6⟩ := h
  have e : tl ++ (D, o) :: rest = (tl ++ [(D, o)]) ++ rest := by simp
  refine ⟨n, t, b', tl ++ [(D, o)], e1, by rw [e2, e], by rw [← e]; exact h1, h2, h3, h4, h5, ?_⟩
  intro p hp
  rcases List.mem_append.mp hp with hp | hp
  · exact AllLt.of fun q hq => AllLt.mem (h6 p hp) q (by
      rcases List.mem_append.mp hq with hq | hq
      · exact List.mem_append_left _ hq
      · exact List.mem_append_right _ (.tail _ hq))
  · rw [List.mem_singleton.mp hp]; exact l
theorem make_call1 {w : World} {dp un : Nat} {gd : Option (List Code)} {cn : Str} {cs : Scope} {L a' : Addr} {ccd : Value} {cl : List (Str × Addr)} {outer : List Env} {A₀ : Around} {base g : Heap} {mean : ExcName → Option Value} {mg mb : Str → Option Value} {m : Str → Option Value} {hp : Heap} {gs : Array GenState} {dr : Drawn} {tk : Nat} {os : OsState} {Q E : Value → Shared → Prop}
    {a : BA} {b : BS} {rest : Led} {op : Str} {tO tS tD : Tok} {D D1 : Addr} {o1 : Obj} {vs : List Value} {as : List Int} {d : Int}
    (B : Below A₀ base outer g) (X : (heapK w.params).In g) (T : Top viewK (looseW viewK [Str.ofString "MOST_BITS"]) mean mg mb g) (F : Fr g L hp m) (N : News g L hp ((D, tup vs 0) :: (D1, o1) :: (BL a b ++ rest))) (hk : cs.kind = .function) (hdp : dp < 500) (hun : un < 1000)
    (hA : a.Ok) (hB : Bank w rest b) (wf : Wf b.T) (hlen : b.T.length ≤ 999) (off : OwnOff rest a.adr) (hi : IntsAre vs as) (l1 : AllLt D ((D1, o1) :: (BL a b ++ rest))) (l0 : AllLt D1 (BL a b ++ rest)) (hnode : NodeOk b.T.length (op, as, d)) {xb : Addr} (hxb : a.bk = xb)
    (h : ∀ v h' tk news', Fr g L h' m → News g L h' news' → TermPost w a b rest v news' → Q v ⟨h', gs, dr, tk, os⟩) :
    wpAny (model PRG w) (ktrTop dp un gd cn cs L a' ccd cl outer) (call (.ref 396) [.ref xb, .str op tO, .ref D, .int 0 tS, .int d tD]) Q E ⟨hp, gs, dr, tk, os⟩ := by
  have lx := AllLt.mem l1
  refine make_call B X T F (rest := (D1, o1) :: rest) (N.perm ?_) hk hdp hun hA (hB.mono fun _ hp => .tail _ hp) wf hlen (OwnOff.cons off (adr_lt l0)) hi (AllLt.of fun q hq => lx q ?_) hnode hxb fun v h' tk' news' F' N' hP => h v h' tk' news' F' N' (hP.drop l0)
  · intro p hp
    simp only [List.mem_cons, List.mem_append] at hp ⊢
    rcases hp with hp | hp | hp | hp
    · exact .inl hp
    · exact .inr (.inr (.inl hp))
    · exact .inr (.inl hp)
    · exact .inr (.inr (.inr hp))
  · simp only [List.mem_cons, List.mem_append] at hq ⊢
    rcases hq with hq | hq | hq
    · exact .inr (.inl hq)
    · exact .inl hq
    · exact .inr (.inr hq)
theorem o_sub {prog : Program} {w : World} {A : Around} {E : Value → Shared → Prop} {a b : Int} {t u : Tok} {hp : Heap} {gs : Array GenState} {dr : Drawn} {tk : Nat} {os : OsState} {Q : Value → Shared → Prop} (h : Q (.int (a - b) tk) ⟨hp, gs, dr, tk + 1, os⟩) : wpAny (model prog w) A (binaryOp .Sub (.int a t) (.int b u)) Q E ⟨hp, gs, dr, tk, os⟩ := sub_int (s := ⟨hp, gs, dr, tk, os⟩) h
theorem o_add {prog : Program} {w : World} {A : Around} {E : Value → Shared → Prop} {a b : Int} {t u : Tok} {hp : Heap} {gs : Array GenState} {dr : Drawn} {tk : Nat} {os : OsState} {Q : Value → Shared → Prop} (h : Q (.int (a + b) tk) ⟨hp, gs, dr, tk + 1, os⟩) : wpAny (model prog w) A (binaryOp .Add (.int a t) (.int b u)) Q E ⟨hp, gs, dr, tk, os⟩ := add_int (s := ⟨hp, gs, dr, tk, os⟩) h
/- N5 -/
set_option maxHeartbeats 8000000 in
theorem want_all_does (w : World) {D U : Nat} (hD : D < 495) (hU : U < 990) {a : BA} {b : BS} {rest news : Led} {l : Addr} {oS : Obj} {vs : List Value} {as : List Int} {nl : Nat} {t0 t1 : Tok} {wh : Str}
  (hA : a.Ok) (hB : Bank w rest b) (hlen : b.T.length ≤ 1000) (hsub : ∀ p ∈ BL a b ++ rest, p ∈ news) (hl : (l, oS) ∈ news) (ho : oS = listOf vs.toArray nl ∨ oS = tup vs nl) (hi : IntsAre vs as) (hr : ∀ x ∈ as, 1 ≤ x ∧ x < b.T.length) :
  Does w 424 [.ref a.bk, .ref l, .int 0 t0, .str wh t1] D U news (fun v news' => v = .none ∧ news' = news) := by
  have hA' := hA
  have hsub' := hsub
  refine' does_intro' (names := [Str.ofString "self", Str.ofString "some", Str.ofString "s", Str.ofString "where", Str.ofString "t"]) (k := 1) (vals := [some (.ref a.bk), some (.ref l), some (.int 0 t0), some (.str wh t1), none]) ?hvals ?ho ?hcd ?hD ?hbind ?hall ?hnd ?hco ?hgen ?hk ?hcell ?body
  tb_start
  intro K A0 base mean mg mb g L h gs dr os tk0 Q lv B X T F N lt hdp hun hq
  have hd1 := Nat.lt_of_le_of_lt hdp (Nat.add_lt_add_right hD 1)
  have hu1 := Nat.lt_of_le_of_lt hun (Nat.add_lt_add_right hU 3)
  show wpAny _ _ (execs (_ :: _) _) _ _ _
  have v0 := lv 0 (Str.ofString "self") rfl
  have v1 := lv 1 (Str.ofString "some") rfl
  have v2 := lv 2 (Str.ofString "s") rfl
  have v3 := lv 3 (Str.ofString "where") rfl
  have v4 := lv 4 (Str.ofString "t") rfl
  clear lv
  obtain ⟨bk, bd, sw, fr, to, ta, ts, td, nm, es, nE, swO, frO⟩ := a
  obtain ⟨c1, c2, c3, c4, c5, c6, c7, c8, lo, htn, hfn, g1, g2, g3, g4, g5, g6, g7, hno⟩ := hA
  dsimp only [BL, BA.adr, List.cons_append, List.nil_append] at *
  have m1 := hsub _ (.head _)
  have m2 := hsub _ (.tail _ (.head _))
  have m3 := hsub _ (.tail _ (.tail _ (.head _)))
  have m4 := hsub _ (.tail _ (.tail _ (.tail _ (.head _))))
  have m5 := hsub _ (.tail _ (.tail _ (.tail _ (.tail _ (.head _)))))
  have m6 := hsub _ (.tail _ (.tail _ (.tail _ (.tail _ (.tail _ (.head _))))))
  have m7 := hsub _ (.tail _ (.tail _ (.tail _ (.tail _ (.tail _ (.tail _ (.head _)))))))
  have m8 := hsub _ (.tail _ (.tail _ (.tail _ (.tail _ (.tail _ (.tail _ (.tail _ (.head _))))))))
  have hsr : ∀ p ∈ rest, p ∈ news := fun p hp => hsub p (.tail _ (.tail _ (.tail _ (.tail _ (.tail _ (.tail _ (.tail _ (.tail _ (.tail _ hp)))))))))
  have q_want : getL (Str.ofString "want") es = some none := hno "want" (by decide)
  refine x_for (hs := by (intro v; with_unfolding_all rfl)) (h := ?_)
  refine e_var (h := ?_)
  rcases ho with rfl | rfl
  · refine p_list rfl F N hl v4 (fun _ vals' news' => news' = news ∧ ∃ o, vals' = [some (.ref bk), some (.ref l), some (.int 0 t0), some (.str wh t1), o]) ⟨rfl, _, rfl⟩ (fun _ _ _ h => by rw [h.1]; exact hl) (fun _ _ _ h => by obtain ⟨_, _, rfl⟩ := h; rfl) ?_ ?_
    · rintro k v _ _ h₁ tk₁ I oI' hv ⟨rfl, o, rfl⟩ hne F₁ N₁ QT hQT
      clear F N
      dsimp only [List.set_cons_succ, List.set_cons_zero] at F₁
      obtain ⟨x, tx, hx, rfl⟩ := ints_at hi hv
      obtain ⟨n, rfl⟩ := Int.eq_ofNat_of_zero_le (show 0 ≤ x by have := hr x hx; omega)
      obtain ⟨kk, hkk⟩ := Tn.key (T := b.T) (n := n) (by have := hr _ hx; constructor <;> omega)
      refine x_exprN (h := ?_)
      refine e_mcall (hk := mk_want _) (h := ?_)
      refine wa_v (h := ?_)
      refine wa_v (h := ?_)
      refine wa_v1 (h := ?_)
      refine ⟨In.of (by with_reducible assumption) (by with_reducible assumption), ?_⟩
      (refine' Does.use' (want_does _ ?hDz86 ?hUz86 ?hAz86 ?hBz86 ?hlenz86 ?hsubz86 ?htz86) ?haz86 ?Bz86 ?Xz86 ?Tz86 ?Fz86 ?Nz86 ?hkz86 (Nat.le_refl _) (Nat.le_refl _) ?_; (case hAz86 => assumption); (case hBz86 => assumption); (case haz86 => exact rfl); (case hDz86 => omega); (case hUz86 => omega); (case hlenz86 => omega); (case htz86 => assumption); (case Bz86 => assumption); (case Xz86 => assumption); (case Tz86 => assumption); (case Fz86 => assumption); (case Nz86 => assumption); (case hsubz86 => kst_all); (case hkz86 => exact rfl)); rintro _ _ _ _ _ _ ⟨rfl, rfl⟩; k_sweep; (try refine ⟨rfl, ?_⟩)
      refine x_nil (h := ?_)
      exact hQT _ _ ⟨_, _, _, _, rfl, by assumption, by assumption, hne, rfl, _, rfl⟩
    · rintro _ _ h' tk' ⟨rfl, o, rfl⟩ F' N'
      exact x_nil (hq _ _ (back F' N' rfl ⟨rfl, rfl⟩))
  · refine p_tup rfl F N hl v4 (fun _ vals' news' => news' = news ∧ ∃ o, vals' = [some (.ref bk), some (.ref l), some (.int 0 t0), some (.str wh t1), o]) ⟨rfl, _, rfl⟩ (fun _ _ _ h => by rw [h.1]; exact hl) (fun _ _ _ h => by obtain ⟨_, _, rfl⟩ := h; rfl) ?_ ?_
    · rintro k v _ _ h₁ tk₁ I oI' hv ⟨rfl, o, rfl⟩ hne F₁ N₁ QT hQT
      clear F N
      dsimp only [List.set_cons_succ, List.set_cons_zero] at F₁
      obtain ⟨x, tx, hx, rfl⟩ := ints_at hi hv
      obtain ⟨n, rfl⟩ := Int.eq_ofNat_of_zero_le (show 0 ≤ x by have := hr x hx; omega)
      obtain ⟨kk, hkk⟩ := Tn.key (T := b.T) (n := n) (by have := hr _ hx; constructor <;> omega)
      refine x_exprN (h := ?_)
      refine e_mcall (hk := mk_want _) (h := ?_)
      refine wa_v (h := ?_)
      refine wa_v (h := ?_)
      refine wa_v1 (h := ?_)
      refine ⟨In.of (by with_reducible assumption) (by with_reducible assumption), ?_⟩
      (refine' Does.use' (want_does _ ?hDz87 ?hUz87 ?hAz87 ?hBz87 ?hlenz87 ?hsubz87 ?htz87) ?haz87 ?Bz87 ?Xz87 ?Tz87 ?Fz87 ?Nz87 ?hkz87 (Nat.le_refl _) (Nat.le_refl _) ?_; (case hAz87 => assumption); (case hBz87 => assumption); (case haz87 => exact rfl); (case hDz87 => omega); (case hUz87 => omega); (case hlenz87 => omega); (case htz87 => assumption); (case Bz87 => assumption); (case Xz87 => assumption); (case Tz87 => assumption); (case Fz87 => assumption); (case Nz87 => assumption); (case hsubz87 => kst_all); (case hkz87 => exact rfl)); rintro _ _ _ _ _ _ ⟨rfl, rfl⟩; k_sweep; (try refine ⟨rfl, ?_⟩)
      refine x_nil (h := ?_)
      exact hQT _ _ ⟨_, _, _, _, rfl, by assumption, by assumption, hne, rfl, _, rfl⟩
    · rintro _ _ h' tk' ⟨rfl, o, rfl⟩ F' N'
      exact x_nil (hq _ _ (back F' N' rfl ⟨rfl, rfl⟩))
/- Form -/
noncomputable def FLed (fd lst : Addr) (o : Obj) (vs : List Value) (nc : Nat) : Led := [(fd, o), (lst, listOf vs.toArray nc)]
/-- feed and bank -/
structure FS (w : World) (a : BA) (fd lst : Addr) (o : Obj) (vs : List Value) (k : Int) (b : BS) (rest : Led) : Prop where
  fe : ∃ tk, o.IsDictOf (PySem.strKind PySem.Challenge.rw_qz0034_01.row.prog w) [(Str.ofString "cells", .ref lst), (Str.ofString "spot", .int k tk)]
  fi : ∃ ns, IntsAre vs ns ∧ ns.length ≤ 60
  fk : 0 ≤ k
  ok : a.Ok
  bank : Bank w rest b
  wf : Wf b.T
  off : OwnOff rest (fd :: lst :: a.adr)
  ne : @Ne Nat fd lst
  f1 : @LT.lt Nat _ fd a.bd
  f2 : @LT.lt Nat _ lst a.bd
  lo : (fd == sysModules) = false
theorem Bank.mono' {w : World} {led led' : Led} {b : BS} (h : Bank w led b) (k : ∀ p ∈ led, p.2.cls = .type "tuple" → p ∈ led') : Bank w led' b := by
  have hi : ∀ {as : List Int} {c : Addr}, IntTup led as c → IntTup led' as c := fun ⟨vs, n, hm, hi⟩ => ⟨vs, n, k _ hm rfl, hi⟩
  refine ⟨h.ops, h.args.mono fun _ _ ⟨c, e, i⟩ => ⟨c, e, hi i⟩, h.sorts, h.datas, ⟨h.nums.ex, h.nums.dat, fun x hx => ?_, h.nums.nd⟩, h.sound, h.len, h.pos⟩
  obtain ⟨t1, t2, t3, b', n, hm, hc⟩ := h.nums.keys x hx
  exact ⟨t1, t2, t3, b', n, k _ hm rfl, hi hc⟩
theorem BA.Ok.adr_ge {a : BA} (h : a.Ok) : ∀ x ∈ a.adr, @LE.le Nat _ a.bd x := by
  obtain ⟨c1, c2, c3, c4, c5, c6, c7, c8, _, _, _, _, _, _, _, _, _, _, _⟩ := h
  intro x hx
  simp only [BA.adr, List.mem_cons, List.not_mem_nil, or_false] at hx
  rcases hx with rfl | rfl | rfl | rfl | rfl | rfl | rfl | rfl | rfl <;> omega
theorem BL_adr {a : BA} {b : BS} : ∀ p ∈ BL a b, p.1 ∈ a.adr := by
  intro p hp
  simp only [BL, List.mem_cons, List.not_mem_nil, or_false] at hp
  simp only [BA.adr, List.mem_cons, List.not_mem_nil, or_false]
  rcases hp with rfl | rfl | rfl | rfl | rfl | rfl | rfl | rfl | rfl <;> simp
theorem adr_BL {a : BA} {b : BS} : ∀ x ∈ a.adr, ∃ p ∈ BL a b, p.1 = x := by
  intro x hx
  simp only [BA.adr, List.mem_cons, List.not_mem_nil, or_false] at hx
  simp only [BL, List.mem_cons, List.not_mem_nil, or_false]
  rcases hx with rfl | rfl | rfl | rfl | rfl | rfl | rfl | rfl | rfl
  · exact ⟨_, .inl rfl, rfl⟩
  · exact ⟨_, .inr (.inl rfl), rfl⟩
  · exact ⟨_, .inr (.inr (.inl rfl)), rfl⟩
  · exact ⟨_, .inr (.inr (.inr (.inl rfl))), rfl⟩
  · exact ⟨_, .inr (.inr (.inr (.inr (.inl rfl)))), rfl⟩
  · exact ⟨_, .inr (.inr (.inr (.inr (.inr (.inl rfl))))), rfl⟩
  · exact ⟨_, .inr (.inr (.inr (.inr (.inr (.inr (.inl rfl)))))), rfl⟩
  · exact ⟨_, .inr (.inr (.inr (.inr (.inr (.inr (.inr (.inl rfl))))))), rfl⟩
  · exact ⟨_, .inr (.inr (.inr (.inr (.inr (.inr (.inr (.inr rfl))))))), rfl⟩
section
variable {w : World} {a : BA} {fd : Addr} {lst : Addr} {o : Obj} {vs : List Value} {nc : Nat} {k : Int} {b : BS} {rest : Led}
/-- new immutable objects -/
theorem FS.more (S : FS w a fd lst o vs k b rest) {tl : Led} (hf : Fresh tl (FLed fd lst o vs nc ++ (BL a b ++ rest))) : FS w a fd lst o vs k b (tl ++ rest) := by
  refine { S with bank := S.bank.mono fun p hp => List.mem_append_right _ hp, off := ?_ }
  intro p hp x hx
  rcases List.mem_append.mp hp with hp | hp
  · have hl := AllLt.mem (hf p hp)
    rcases List.mem_cons.mp hx with rfl | hx
    · exact Nat.ne_of_gt (hl (x, o) (by simp [FLed]))
    · rcases List.mem_cons.mp hx with rfl | hx
      · exact Nat.ne_of_gt (hl (x, listOf vs.toArray nc) (by simp [FLed]))
      · obtain ⟨q, hq, rfl⟩ := adr_BL (b := b) x hx
        exact Nat.ne_of_gt (hl q (List.mem_append_right _ (List.mem_append_left _ hq)))
  · exact S.off p hp x hx
theorem FS.offB (S : FS w a fd lst o vs k b rest) : OwnOff (FLed fd lst o vs nc ++ rest) a.adr := by
  intro p hp x hx
  rcases List.mem_append.mp hp with hp | hp
  · have hx' := S.ok.adr_ge x hx
    have h1 := S.f1
    have h2 := S.f2
    simp only [FLed, List.mem_cons, List.not_mem_nil, or_false] at hp
    rcases hp with rfl | rfl
    · exact Nat.ne_of_lt (Nat.lt_of_lt_of_le h1 hx')
    · exact Nat.ne_of_lt (Nat.lt_of_lt_of_le h2 hx')
  · exact S.off p hp x (List.mem_cons_of_mem _ (List.mem_cons_of_mem _ hx))
theorem FS.offF (S : FS w a fd lst o vs k b rest) : OwnOff (BL a b ++ rest) [fd, lst] := by
  intro p hp x hx
  have h1 := S.f1
  have h2 := S.f2
  rcases List.mem_append.mp hp with hp | hp
  · have hp' := S.ok.adr_ge _ (BL_adr p hp)
    simp only [List.mem_cons, List.not_mem_nil, or_false] at hx
    rcases hx with rfl | rfl
    · exact Nat.ne_of_gt (Nat.lt_of_lt_of_le h1 hp')
    · exact Nat.ne_of_gt (Nat.lt_of_lt_of_le h2 hp')
  · simp only [List.mem_cons, List.not_mem_nil, or_false] at hx
    exact S.off p hp x (by rcases hx with rfl | rfl <;> simp)
theorem FS.bankB (S : FS w a fd lst o vs k b rest) : Bank w (FLed fd lst o vs nc ++ rest) b := S.bank.mono fun p hp => List.mem_append_right _ hp
end
section
variable {w : World} {dp : Nat} {un : Nat} {gd : Option (List Code)} {outer : List Env} {A₀ : Around} {base : Heap} {mean : ExcName → Option Value} {mg : Str → Option Value} {mb : Str → Option Value} {g : Heap} {L : Addr} {a : BA} {cn : Str} {cs : Scope} {ccd : Value} {cl : List (Str × Addr)} {E : Value → Shared → Prop} {gs : Array GenState} {dr : Drawn} {os : OsState} {a' : Addr} {m : Str → Option Value} {hp : Heap} {tk : Nat} {Q : Value → Shared → Prop} {fd : Addr} {lst : Addr} {o : Obj} {vs : List Value} {nc : Nat} {k : Int} {b : BS} {rest : Led}
theorem next_call {wide : Int} {tw : Tok} (B : Below A₀ base outer g) (X : (heapK w.params).In g) (T : Top viewK (looseW viewK [Str.ofString "MOST_BITS"]) mean mg mb g) (F : Fr g L hp m) (S : FS w a fd lst o vs k b rest) (N : News g L hp (FLed fd lst o vs nc ++ (BL a b ++ rest))) (hk : cs.kind = .function) (hdp : dp < 500) (hun : un < 1000) (hk1 : k < 1000) (hw : 0 < wide ∧ wide ≤ 11)
    (h : ∀ r tr o' h' tk', 0 ≤ r → r < wide → Fr g L h' m → FS w a fd lst o' vs (k + 1) b rest → News g L h' (FLed fd lst o' vs nc ++ (BL a b ++ rest)) → Q (.int r tr) ⟨h', gs, dr, tk', os⟩) :
    wpAny (model PRG w) (ktrTop dp un gd cn cs L a' ccd cl outer) (call (.ref 921) [.ref fd, .int wide tw]) Q E ⟨hp, gs, dr, tk, os⟩ := by
  obtain ⟨tk1, hfe⟩ := S.fe
  obtain ⟨ns, hi, hlen⟩ := S.fi
  refine Does.use (s := ⟨hp, gs, dr, tk, os⟩) (next_does w hdp hun hfe hi hlen S.fk hk1 hw.1 hw.2 S.offF S.ne S.lo) B X T F N hk (Nat.le_refl _) (Nat.le_refl _) ?_
  rintro v h' tk' news' F' N' ⟨r, tr, tk2, o', rfl, h0, h1, hd', rfl⟩
  exact h r tr o' h' tk' h0 h1 F' { S with fe := ⟨tk2, hd'⟩, fk := by have := S.fk; omega } N'
theorem op_call {f : Addr} {args args' : List Value} {D U : Nat} (d : Does w f args' D U (BL a b ++ (FLed fd lst o vs nc ++ rest)) (TermPost w a b (FLed fd lst o vs nc ++ rest))) (ha : args' = args) (B : Below A₀ base outer g) (X : (heapK w.params).In g) (T : Top viewK (looseW viewK [Str.ofString "MOST_BITS"]) mean mg mb g) (F : Fr g L hp m) (S : FS w a fd lst o vs k b rest) (N : News g L hp (FLed fd lst o vs nc ++ (BL a b ++ rest))) (hk : cs.kind = .function) (hdp : dp ≤ D) (hun : un ≤ U)
    (h : ∀ n t b' tl h' tk', Fr g L h' m → FS w a fd lst o vs k b' (tl ++ rest) → News g L h' (FLed fd lst o vs nc ++ (BL a b' ++ (tl ++ rest))) → b.T.length ≤ b'.T.length → b'.T.length ≤ b.T.length + 1 → Tn b'.T n → Fresh tl (FLed fd lst o vs nc ++ (BL a b ++ rest)) → Q (.int (n : Nat) t) ⟨h', gs, dr, tk', os⟩) :
    wpAny (model PRG w) (ktrTop dp un gd cn cs L a' ccd cl outer) (call (.ref f) args) Q E ⟨hp, gs, dr, tk, os⟩ := by
  subst ha
  have perm : ∀ {b₁ : BS} {l₁ l₂ l₃ : Led}, (∀ p ∈ BL a b₁ ++ (l₁ ++ (l₂ ++ l₃)), p ∈ l₂ ++ (BL a b₁ ++ (l₁ ++ l₃))) ∧ (∀ p ∈ l₂ ++ (BL a b₁ ++ (l₁ ++ l₃)), p ∈ BL a b₁ ++ (l₁ ++ (l₂ ++ l₃))) := by
    intro b₁ l₁ l₂ l₃
    constructor <;> intro p hp <;> simp only [List.mem_append] at hp ⊢
    · rcases hp with hp | hp | hp | hp
      · exact .inr (.inl hp)
      · exact .inr (.inr (.inl hp))
      · exact .inl hp
      · exact .inr (.inr (.inr hp))
    · rcases hp with hp | hp | hp | hp
      · exact .inr (.inr (.inl hp))
      · exact .inl hp
      · exact .inr (.inl hp)
      · exact .inr (.inr (.inr hp))
  refine Does.use (s := ⟨hp, gs, dr, tk, os⟩) d B X T F (N.perm fun p hp => by have := (perm (l₁ := []) (l₂ := FLed fd lst o vs nc) (l₃ := rest) (b₁ := b)).1 p; simp only [List.nil_append] at this; exact this hp) hk hdp hun ?_
  rintro v h' tk' news' F' N' ⟨n, t, b', tl, rfl, rfl, hB', hwf, h1, h2, h3, hf⟩
  have hf' : Fresh tl (FLed fd lst o vs nc ++ (BL a b ++ rest)) := fun p hp => AllLt.of fun q hq => AllLt.mem (hf p hp) q (by have := (perm (l₁ := []) (l₂ := FLed fd lst o vs nc) (l₃ := rest) (b₁ := b)).2 q; simp only [List.nil_append] at this; exact this hq)
  refine h n t b' tl h' tk' F' { S.more hf' with bank := hB'.mono' ?_, wf := hwf } (N'.perm fun p hp => perm.2 p hp) h1 h2 h3 hf'
  intro p hp hcls
  rcases List.mem_append.mp hp with hp | hp
  · exact List.mem_append_left _ hp
  · rcases List.mem_append.mp hp with hp | hp
    · obtain ⟨tk1, hfe⟩ := S.fe
      simp only [FLed, List.mem_cons, List.not_mem_nil, or_false] at hp
      rcases hp with rfl | rfl
      · obtain ⟨es, ep, hc, _⟩ := hfe
        rw [hc.1] at hcls; injection hcls with e; exact absurd e (by decide)
      · injection hcls with e; exact absurd e (by decide)
    · exact List.mem_append_right _ hp
end
/- Form2 -/
theorem BL_bk {a : BA} {b : BS} : (a.bk, instObj 782 a.bd) ∈ BL a b := .head _
theorem BL_bd {a : BA} {b : BS} : (a.bd, dictOf a.es a.nE) ∈ BL a b := .tail _ (.head _)
noncomputable def costC : Nat → Nat
  | 0 => 2
  | d + 1 => 2 * costC d + 4
noncomputable def costM : Nat → Nat
  | 0 => 0
  | d + 1 => 2 * costM d + 1
noncomputable def FPost (w : World) (a : BA) (fd lst : Addr) (o : Obj) (vs : List Value) (nc : Nat) (k : Int) (b : BS) (rest : Led) (c m : Nat) (v : Value) (news' : Led) : Prop :=
  ∃ (n : Nat) (t : Tok) (o' : Obj) (k' : Int) (b' : BS) (tl : Led), v = .int n t ∧ news' = FLed fd lst o' vs nc ++ (BL a b' ++ (tl ++ rest)) ∧ FS w a fd lst o' vs k' b' (tl ++ rest) ∧ k ≤ k' ∧ k' ≤ k + c ∧ b.T.length ≤ b'.T.length ∧ b'.T.length ≤ b.T.length + m ∧ Tn b'.T n ∧ Fresh tl (FLed fd lst o vs nc ++ (BL a b ++ rest))
noncomputable def FormOk (w : World) (d : Nat) : Prop :=
  ∀ (D U : Nat) (a : BA) (fd lst : Addr) (o : Obj) (vs : List Value) (nc : Nat) (k : Int) (b : BS) (rest : Led) (lv : Addr) (l0 l1 l2 : Nat) (t0 t1 t2 td : Tok) (x : Int) (nl : Nat),
    D + d < 480 → U + 3 * d < 800 → d ≤ 3 → x = d → FS w a fd lst o vs k b rest → (lv, listOf [Value.int l0 t0, .int l1 t1, .int l2 t2].toArray nl) ∈ rest → (1 ≤ l0 ∧ l0 < 6) → (1 ≤ l1 ∧ l1 < 6) → (1 ≤ l2 ∧ l2 < 6) → k + costC d < 1000 → b.T.length + costM d ≤ 900 →
    Does w 940 [.ref fd, .ref a.bk, .ref lv, .int x td] D U (FLed fd lst o vs nc ++ (BL a b ++ rest)) (FPost w a fd lst o vs nc k b rest (costC d) (costM d))
theorem Fresh.adr {tl l l' : Led} (h : Fresh tl l) (k : ∀ p ∈ l', ∃ q ∈ l, q.1 = p.1) : Fresh tl l' := fun p hp => AllLt.of fun q hq => by
  obtain ⟨r, hr, e⟩ := k q hq
  rw [← e]; exact AllLt.mem (h p hp) r hr
/-- two runs of making -/
theorem fresh_more {fd lst : Addr} {o o' : Obj} {vs : List Value} {nc : Nat} {a : BA} {b b' : BS} {tl tl' rest : Led} (h1 : Fresh tl (FLed fd lst o vs nc ++ (BL a b ++ rest))) (h2 : Fresh tl' (FLed fd lst o' vs nc ++ (BL a b' ++ (tl ++ rest)))) : Fresh (tl' ++ tl) (FLed fd lst o vs nc ++ (BL a b ++ rest)) := by
  intro p hp
  rcases List.mem_append.mp hp with hp | hp
  · refine AllLt.of fun q hq => ?_
    have hl := AllLt.mem (h2 p hp)
    rcases List.mem_append.mp hq with hq | hq
    · simp only [FLed, List.mem_cons, List.not_mem_nil, or_false] at hq
      rcases hq with rfl | rfl
      · exact hl (fd, o') (by simp [FLed])
      · exact hl (lst, listOf vs.toArray nc) (by simp [FLed])
    · rcases List.mem_append.mp hq with hq | hq
      · obtain ⟨r, hr, e⟩ := adr_BL (b := b') _ (BL_adr q hq)
        rw [← e]; exact hl r (List.mem_append_right _ (List.mem_append_left _ hr))
      · exact hl q (List.mem_append_right _ (List.mem_append_right _ (List.mem_append_right _ hq)))
  · exact h1 p hp
theorem fresh_nil {l : Led} : Fresh [] l := fun _ hp => nomatch hp
section
variable {w : World} {dp : Nat} {un : Nat} {gd : Option (List Code)} {outer : List Env} {A₀ : Around} {base : Heap} {mean : ExcName → Option Value} {mg : Str → Option Value} {mb : Str → Option Value} {g : Heap} {L : Addr} {a : BA} {cn : Str} {cs : Scope} {ccd : Value} {cl : List (Str × Addr)} {E : Value → Shared → Prop} {gs : Array GenState} {dr : Drawn} {os : OsState} {a' : Addr} {m : Str → Option Value} {hp : Heap} {tk : Nat} {Q : Value → Shared → Prop} {fd : Addr} {lst : Addr} {o : Obj} {vs : List Value} {nc : Nat} {k : Int} {b : BS} {rest : Led}
theorem form_call {d : Nat} {lv : Addr} {l0 l1 l2 : Nat} {t0 t1 t2 td : Tok} {x : Int} {nl : Nat} (IH : FormOk w d) (B : Below A₀ base outer g) (X : (heapK w.params).In g) (T : Top viewK (looseW viewK [Str.ofString "MOST_BITS"]) mean mg mb g) (F : Fr g L hp m) (S : FS w a fd lst o vs k b rest) (N : News g L hp (FLed fd lst o vs nc ++ (BL a b ++ rest))) (hk : cs.kind = .function)
    (hdp : dp + d < 480) (hun : un + 3 * d < 800) (hd3 : d ≤ 3) (hx : x = d) (hlv : (lv, listOf [Value.int l0 t0, .int l1 t1, .int l2 t2].toArray nl) ∈ rest) (h0 : 1 ≤ l0 ∧ l0 < 6) (h1 : 1 ≤ l1 ∧ l1 < 6) (h2 : 1 ≤ l2 ∧ l2 < 6) (hk1 : k + costC d < 1000) (hT : b.T.length + costM d ≤ 900)
    (h : ∀ n t o' k' b' tl h' tk', Fr g L h' m → FS w a fd lst o' vs k' b' (tl ++ rest) → News g L h' (FLed fd lst o' vs nc ++ (BL a b' ++ (tl ++ rest))) → k ≤ k' → k' ≤ k + costC d → b.T.length ≤ b'.T.length → b'.T.length ≤ b.T.length + costM d → Tn b'.T n → Fresh tl (FLed fd lst o vs nc ++ (BL a b ++ rest)) → Q (.int (n : Nat) t) ⟨h', gs, dr, tk', os⟩) :
    wpAny (model PRG w) (ktrTop dp un gd cn cs L a' ccd cl outer) (call (.ref 940) [.ref fd, .ref a.bk, .ref lv, .int x td]) Q E ⟨hp, gs, dr, tk, os⟩ := by
  refine Does.use (s := ⟨hp, gs, dr, tk, os⟩) (IH dp un a fd lst o vs nc k b rest lv l0 l1 l2 t0 t1 t2 td x nl hdp hun hd3 hx S hlv h0 h1 h2 hk1 hT) B X T F N hk (Nat.le_refl _) (Nat.le_refl _) ?_
  rintro v h' tk' news' F' N' ⟨n, t, o', k', b', tl, rfl, rfl, S', e1, e2, e3, e4, e5, e6⟩
  exact h n t o' k' b' tl h' tk' F' S' N' e1 e2 e3 e4 e5 e6
end
section
variable {w : World} {g : Heap} {L : Addr} {A : Around} {E : Value → Shared → Prop} {gs : Array GenState} {dr : Drawn} {os : OsState} {l : Addr} {news : Led} {nl : Nat} {u : Tok} {value : PySem.Expr} {slice : PySem.Expr} {hp : Heap} {tk : Nat} {Q : Value → Shared → Prop}
/-- one of the leaves -/
theorem c_leaf {l0 l1 l2 : Nat} {t0 t1 t2 : Tok} {i : Int} (N : autoParam (News g L hp news) kA) (hm : autoParam ((l, listOf [Value.int l0 t0, .int l1 t1, .int l2 t2].toArray nl) ∈ news) kM) (h0 : autoParam (1 ≤ l0 ∧ l0 < 6) kA) (h1 : autoParam (1 ≤ l1 ∧ l1 < 6) kA) (h2 : autoParam (1 ≤ l2 ∧ l2 < 6) kA) (hi : autoParam (0 ≤ i) kO) (hi' : autoParam (i < 3) kO) (h : ∀ (n : Nat) t, 1 ≤ n → n < 6 → Q (.int n t) ⟨hp, gs, dr, tk, os⟩)
    (hs : autoParam (subscripted slice false (.ref l) (.int i u) = operate [.ref l, .int i u] (getItem (.ref l) (.int i u))) kW) : wpAny (model PRG w) A (subscriptTail value slice (.ref l) (.int i u)) Q E ⟨hp, gs, dr, tk, os⟩ := by
  have : ∃ (n : Nat) (t : Tok), [Value.int l0 t0, .int l1 t1, .int l2 t2][i.toNat]? = some (.int n t) ∧ 1 ≤ n ∧ n < 6 := by
    rcases (show i = 0 ∨ i = 1 ∨ i = 2 by omega) with rfl | rfl | rfl
    · exact ⟨l0, t0, rfl, h0⟩
    · exact ⟨l1, t1, rfl, h1⟩
    · exact ⟨l2, t2, rfl, h2⟩
  obtain ⟨n, t, e, e1, e2⟩ := this
  exact item_N (s := ⟨hp, gs, dr, tk, os⟩) N hm hi (by omega) e (h n t e1 e2) hs
end
/- Ma -/
/-- other own attributes -/
noncomputable def BA.at (a : BA) (es : List DictEntry) (n : Nat) : BA := ⟨a.bk, a.bd, a.sw, a.fr, a.to, a.ta, a.ts, a.td, a.nm, es, n, a.swO, a.frO⟩
section
variable {w : World} {g : Heap} {L : Addr} {a : BA} {A : Around} {E : Value → Shared → Prop} {gs : Array GenState} {dr : Drawn} {os : OsState} {m : Str → Option Value} {rest : Led} {b : BS} {kvs : List (Str × Value)} {name : Str} {v : Value} {hp : Heap} {tk : Nat}
theorem s_bank {x : Addr} {Q : Unit → Shared → Prop} (hx : a.bk = x) (F : Fr g L hp m) (X : (heapK w.params).In g) (N : News g L hp (BL a b ++ rest)) (hA : a.Ok0) (off : OwnOff rest a.adr) (hT : Ats a.es kvs) (hk : SetOk (heapK w.params) 782 name) (hz : a.es.length ≤ 900)
    (h : ∀ h' es' n', Fr g L h' m → News g L h' (BL (a.at es' n') b ++ rest) → Ats es' ((name, v) :: kvs) → es'.length ≤ a.es.length + 1 → Q () ⟨h', gs, dr, tk + 2, os⟩) : wpAny (model PRG w) A (setAttr (.ref x) name v) Q E ⟨hp, gs, dr, tk, os⟩ := by
  subst hx
  obtain ⟨c1, c2, c3, c4, c5, c6, c7, c8, lo, g3, g4, g5, g6, g7⟩ := hA
  have hbd : ∀ p ∈ rest, p.1 ≠ a.bd := fun p hp => off p hp _ (by simp [BA.adr])
  have U : UpdF a.bd (dictOf a.es a.nE) (BL a b ++ rest) (fun o' => (a.bk, instObj 782 a.bd) :: (a.bd, o') :: ((BL a b).drop 2 ++ rest)) := by
    refine UpdF.tail (Nat.ne_of_gt c1) (UpdF.head ?_)
    intro p hp
    have k : ∀ {y : Addr}, @LT.lt Nat _ a.bd y → y ≠ a.bd := fun h => Nat.ne_of_gt h
    rcases List.mem_append.mp (show p ∈ (BL a b).drop 2 ++ rest from hp) with hp | hp
    · simp only [BL, List.drop_succ_cons, List.drop_zero, List.mem_cons, List.not_mem_nil, or_false] at hp
      rcases hp with rfl | rfl | rfl | rfl | rfl | rfl | rfl <;> exact k (by dsimp only; omega)
    · exact hbd p hp
  refine s_attr F X N (.head _) U hT hk hz fun h' es' n' F' N' hA' hl' => ?_
  exact h h' es' n' F' N' hA' hl'
end
theorem make_app {w : World} {dp un : Nat} {gd : Option (List Code)} {cn : Str} {cs : Scope} {L a' : Addr} {ccd : Value} {cl : List (Str × Addr)} {outer : List Env} {A₀ : Around} {base g : Heap} {mean : ExcName → Option Value} {mg mb : Str → Option Value} {m : Str → Option Value} {hp : Heap} {gs : Array GenState} {dr : Drawn} {tk : Nat} {os : OsState} {Q E : Value → Shared → Prop}
    {a : BA} {b : BS} {rest : Led} {op : Str} {tO tS tD : Tok} {D : Addr} {d : Int}
    (B : Below A₀ base outer g) (X : (heapK w.params).In g) (T : Top viewK (looseW viewK [Str.ofString "MOST_BITS"]) mean mg mb g) (F : Fr g L hp m) (N : News g L hp ((D, tup [] 0) :: (BL a b ++ rest))) (hk : cs.kind = .function) (hdp : dp < 500) (hun : un < 1000)
    (hA : a.Ok0) (hB : Bank w rest b) (hlen : b.T.length ≤ 999) (off : OwnOff rest a.adr) (l1 : AllLt D (BL a b ++ rest)) (hnew : (op, [], d) ∉ b.T) {xb : Addr} (hxb : a.bk = xb)
    (h : ∀ t b' tl h' tk', Fr g L h' m → News g L h' (BL a b' ++ (tl ++ rest)) → Bank w (tl ++ rest) b' → b'.T = b.T ++ [(op, [], d)] → Fresh tl (BL a b ++ rest) → (∀ led : Led, Bank w led b → (∀ p ∈ tl, p ∈ led) → Bank w led b') → Q (.int (b.T.length : Nat) t) ⟨h', gs, dr, tk', os⟩) :
    wpAny (model PRG w) (ktrTop dp un gd cn cs L a' ccd cl outer) (call (.ref 396) [.ref xb, .str op tO, .ref D, .int 0 tS, .int d tD]) Q E ⟨hp, gs, dr, tk, os⟩ := by
  subst hxb
  refine Does.use (s := ⟨hp, gs, dr, tk, os⟩) (make_does w (rest := [(D, tup [] 0)] ++ rest) (as := []) hdp hun hA (hB.mono fun _ hp => .tail _ hp) (by omega) (OwnOff.cons off (adr_lt l1)) ⟨[], 0, .head _, .nil⟩) B X T F (swap1 N) hk (Nat.le_refl _) (Nat.le_refl _) ?_
  rintro v h' tk' news' F' N' ⟨n, t, b', tl, rfl, rfl, hB', hT, h1, hn, hf, hr⟩
  have hfr : Fresh (tl ++ [(D, tup [] 0)]) (BL a b ++ rest) := by
    intro p hp
    rcases List.mem_append.mp hp with hp | hp
    · exact AllLt.of fun q hq => AllLt.mem (hf p hp) q (by
        rcases List.mem_append.mp hq with hq | hq
        · exact List.mem_append_left _ hq
        · exact List.mem_append_right _ (.tail _ hq))
    · rw [List.mem_singleton.mp hp]; exact l1
  have hT' : b'.T = b.T ++ [(op, [], d)] := by
    rcases hT with e | e
    · rw [e] at hn; exact absurd (List.mem_of_getElem? hn) hnew
    · exact e
  have hn' : n = b.T.length := by
    rw [hT'] at hn
    rcases snoc_get hn with e | ⟨e, _⟩
    · exact absurd (List.mem_of_getElem? e) hnew
    · exact e
  subst hn'
  exact h t b' (tl ++ [(D, tup [] 0)]) h' tk' F' (by rw [List.append_assoc]; exact N') (by rw [List.append_assoc]; exact hB') hT' hfr (fun led hl hm => hr led hl (fun p hp => hm p (List.mem_append_left _ hp)) ⟨[], 0, hm _ (List.mem_append_right _ (.head _)), .nil⟩)
theorem Fresh.off {tl rest : Led} {a : BA} {b : BS} (h : Fresh tl (BL a b ++ rest)) : OwnOff tl a.adr := by
  intro p hp x hx
  obtain ⟨q, hq, rfl⟩ : ∃ q ∈ BL a b, q.1 = x := by
    simp only [BA.adr, List.mem_cons, List.not_mem_nil, or_false] at hx
    simp only [BL, List.mem_cons, List.not_mem_nil, or_false]
    rcases hx with rfl | rfl | rfl | rfl | rfl | rfl | rfl | rfl | rfl
    · exact ⟨_, .inl rfl, rfl⟩
    · exact ⟨_, .inr (.inl rfl), rfl⟩
    · exact ⟨_, .inr (.inr (.inl rfl)), rfl⟩
    · exact ⟨_, .inr (.inr (.inr (.inl rfl))), rfl⟩
    · exact ⟨_, .inr (.inr (.inr (.inr (.inl rfl)))), rfl⟩
    · exact ⟨_, .inr (.inr (.inr (.inr (.inr (.inl rfl))))), rfl⟩
    · exact ⟨_, .inr (.inr (.inr (.inr (.inr (.inr (.inl rfl)))))), rfl⟩
    · exact ⟨_, .inr (.inr (.inr (.inr (.inr (.inr (.inr (.inl rfl))))))), rfl⟩
    · exact ⟨_, .inr (.inr (.inr (.inr (.inr (.inr (.inr (.inr rfl))))))), rfl⟩
  exact Nat.ne_of_gt (AllLt.mem (h p hp) q (List.mem_append_left _ hq))
theorem OwnOff.app {l l' : Led} {adr : List Addr} (h : OwnOff l adr) (h' : OwnOff l' adr) : OwnOff (l ++ l') adr := by
  intro p hp
  rcases List.mem_append.mp hp with hp | hp
  · exact h p hp
  · exact h' p hp
theorem Fresh.restOf {tl l l' : Led} (h : Fresh tl l) (k : ∀ p ∈ l', p ∈ l) : Fresh tl l' := fun p hp => AllLt.of fun q hq => AllLt.mem (h p hp) q (k q hq)
/- Lx -/
theorem law_step {w : World} {k k' : Nat} {P P' : Heap → Addr → List (Option Value) → Led → Prop} {name qual : Str} {params : Arguments} {body : List Stmt} {scope : Scope} {dV kV doc pm cdv ct oc : Value} {an od : Option Addr} {osl : Array (Option Value)} (next : LawGo w k' P')
    (ho : (heapK w.params).lookup 950 = some ⟨oc, od, .func (fnOf name qual params body scope dV kV doc pm an cdv ct), osl⟩) (H : LawAt w k' qual scope body P' → LawAt w k qual scope body P) : LawGo w k P := law_intro ho (H (next ho))
section
variable {w : World} {mean : ExcName → Option Value} {mg : Str → Option Value} {mb : Str → Option Value} {g : Heap} {L : Addr} {a : Addr} {cn : Str} {cs : Scope} {ccd : Value} {cl : List (Str × Addr)} {A : Around} {E : Value → Shared → Prop} {s : Shared} {m : Str → Option Value} {x : Str}
theorem e_gcall0 {fp pos : Pos} {f : Addr} {Q : Value → Shared → Prop} (F : autoParam (Fr g L s.heap m) kA) (X : autoParam ((heapK w.params).In g) kA) (T : autoParam (Top viewK (looseW viewK [Str.ofString "MOST_BITS"]) mean mg mb g) kA) (hx : autoParam (okG cs x = true) kK) (hk : FunOk (heapK w.params) x f)
    (h : wpAny (model PRG w) A (call (.ref f) []) Q E s) : wpAny (model PRG w) A (eval (.Call (.Name x fp) [] [] pos) (envX cn cs L a ccd cl)) Q E s := by
  obtain ⟨k1, k2⟩ := hk
  obtain ⟨a1, a2, a3⟩ := okG_is hx
  exact Call_ (nameX_K F X (topRead_of T) k1 (callWith_K0 (X.keeps F.keep) k2 h) a1 a2 a3) (by with_unfolding_all rfl)
end
theorem Bank.mono2 {w : World} {led led' : Led} {b : BS} (h : Bank w led b) (k : ∀ p ∈ led, (∃ vs n, p.2 = tup vs n) → p ∈ led') : Bank w led' b := by
  have hi : ∀ {as : List Int} {c : Addr}, IntTup led as c → IntTup led' as c := fun ⟨vs, n, hm, hi⟩ => ⟨vs, n, k _ hm ⟨_, _, rfl⟩, hi⟩
  refine ⟨h.ops, h.args.mono fun _ _ ⟨c, e, i⟩ => ⟨c, e, hi i⟩, h.sorts, h.datas, ⟨h.nums.ex, h.nums.dat, fun x hx => ?_, h.nums.nd⟩, h.sound, h.len, h.pos⟩
  obtain ⟨t1, t2, t3, b', n, hm, hc⟩ := h.nums.keys x hx
  exact ⟨t1, t2, t3, b', n, k _ hm ⟨_, _, rfl⟩, hi hc⟩
/- the states of the law between its statements -/
noncomputable def P2 (w : World) (_g : Heap) (L : Addr) (vals : List (Option Value)) (news : Led) : Prop :=
  ∃ (sl fd ls : Addr) (ob okk o : Obj) (vs : List Value) (ns : List Int) (nc : Nat) (k : Int) (tk : Tok),
    vals = [some (.ref sl), some (.ref fd), none, none, none, none, none, none, none] ∧ news = (fd, o) :: (ls, listOf vs.toArray nc) :: (L + 1, ob) :: (L + 2, okk) :: [] ∧ ob.data = .cell none ∧ okk.data = .cell none ∧
    o.IsDictOf (PySem.strKind PRG w) [(Str.ofString "cells", .ref ls), (Str.ofString "spot", .int k tk)] ∧ IntsAre vs ns ∧ ns.length ≤ 60 ∧ 0 ≤ k ∧ k ≤ 6 ∧ @Ne Nat fd ls ∧ (fd == sysModules) = false ∧ @Ne Nat fd (L + 1) ∧ @Ne Nat fd (L + 2) ∧ @Ne Nat ls (L + 1) ∧ @Ne Nat ls (L + 2)
noncomputable def P4 (w : World) (_g : Heap) (L : Addr) (vals : List (Option Value)) (news : Led) : Prop :=
  ∃ (a : BA) (b : BS) (R : Led) (sl fd ls lv : Addr) (ob okk o : Obj) (vs : List Value) (nc nl : Nat) (k : Int) (t0 t1 t2 : Tok) (u0 : Option Value),
    vals = [some (.ref sl), some (.ref fd), some (.ref lv), none, none, none, none, none, none] ∧ u0 = none ∧ FS w a fd ls o vs k b ((L + 2, okk) :: R) ∧ news = FLed fd ls o vs nc ++ (BL a b ++ ((L + 2, okk) :: R)) ∧ okk.data = .cell none ∧
    (L + 1, ob) ∈ R ∧ ob.data = .cell (some (.ref a.bk)) ∧ (lv, listOf [Value.int 3 t0, .int 4 t1, .int 5 t2].toArray nl) ∈ R ∧ OwnOff R [L + 2] ∧ b.T.length = 6 ∧ k ≤ 6 ∧
    (∃ u0 u1 u2 nz, a.swO = listOf [Value.int 0 u0, .int 0 u1, .int 0 u2].toArray nz) ∧ (∃ u0 u1 u2 nz, a.frO = listOf [Value.int 0 u0, .int 0 u1, .int 0 u2].toArray nz)
/- Ly -/
noncomputable def P6 (w : World) (_g : Heap) (L : Addr) (vals : List (Option Value)) (news : Led) : Prop :=
  ∃ (a : BA) (b : BS) (rest R : Led) (sl fd lv md kd : Addr) (ob okk o : Obj) (x : MD) (n : Nat) (tn : Tok) (ρ : Nat → Bool) (u5 u6 u7 u8 : Option Value) (kvs : List (Int × Value)),
    vals = [some (.ref sl), some (.ref fd), some (.ref lv), some (.int n tn), some (.ref md), u5, u6, u7, u8] ∧ news = (kd, o) :: (L + 1, ob) :: (L + 2, okk) :: R ∧ ob.data = .cell (some (.ref a.bk)) ∧ okk.data = .cell (some (.ref kd)) ∧
    a.Ok ∧ Bank w rest b ∧ Wf b.T ∧ b.T.length ≤ 13 ∧ (∀ p ∈ BL a b ++ rest, p ∈ R) ∧ MOk w a.bk md ρ R x ∧ (∃ u0 u1 u2 nz, a.swO = listOf [Value.int 0 u0, .int 0 u1, .int 0 u2].toArray nz) ∧ (∃ u0 u1 u2 nz, a.frO = listOf [Value.int 0 u0, .int 0 u1, .int 0 u2].toArray nz) ∧
    Tn b.T n ∧ o.IsDictOf (PySem.intKind PRG w) kvs ∧ (kd == sysModules) = false ∧ Kv (VT ρ b.T) kvs [3, 4, 5] 3 ∧ OwnOff R [kd, L + 2] ∧ @Ne Nat kd (L + 1) ∧ @Ne Nat kd (L + 2)
/-- the tables made so far -/
inductive Tabs (w : World) (led : Led) : Nat → List (Int × Value) → List Bool → Prop
  | nil : Tabs w led 0 [] []
  | snoc {i : Nat} {kvs : List (Int × Value)} {bs : List Bool} {nt c : Addr} {o : Obj} {β : Bool} : Tabs w led i kvs bs → (nt, o) ∈ led → TT w led o [([], c, .bool β)] → (nt == sysModules) = false → Tabs w led (i + 1) (kvs ++ [((i : Int), .ref nt)]) (bs ++ [β])
theorem Tabs.mono {w : World} {led led' : Led} (k : ∀ p ∈ led, p ∈ led') {i : Nat} {kvs : List (Int × Value)} {bs : List Bool} (h : Tabs w led i kvs bs) : Tabs w led' i kvs bs := by
  induction h with
  | nil => exact .nil
  | snoc _ hm hT hl ih => exact .snoc ih (k _ hm) (hT.mono k) hl
theorem Tabs.three {w : World} {led : Led} {kvs : List (Int × Value)} {bs : List Bool} (h : Tabs w led 3 kvs bs) : ∃ t0 t1 t2 o0 o1 o2 c0 c1 c2, kvs = [(0, .ref t0), (1, .ref t1), (2, .ref t2)] ∧ (t0, o0) ∈ led ∧ (t1, o1) ∈ led ∧ (t2, o2) ∈ led ∧ TT w led o0 [([], c0, .bool (bs.getD 0 false))] ∧ TT w led o1 [([], c1, .bool (bs.getD 1 false))] ∧ TT w led o2 [([], c2, .bool (bs.getD 2 false))] ∧
    (t0 == sysModules) = false ∧ (t1 == sysModules) = false ∧ (t2 == sysModules) = false := by
  cases h with
  | snoc h m2 T2 l2 => cases h with
    | snoc h m1 T1 l1 => cases h with
      | snoc h m0 T0 l0 =>
        cases h
        exact ⟨_, _, _, _, _, _, _, _, _, rfl, m0, m1, m2, T0, T1, T2, l0, l1, l2⟩
/-- what is known so far -/
inductive Knw : Nat → List (Int × Value) → List Bool → Prop
  | nil : Knw 0 [] []
  | snoc {i : Nat} {kvs : List (Int × Value)} {bs : List Bool} {β : Bool} {t : Tok} : Knw i kvs bs → Knw (i + 1) (kvs ++ [(((3 + i : Nat) : Int), .int (bz β) t)]) (bs ++ [β])
theorem valueAt_app {kvs : List (Int × Value)} {k c : Int} {v : Value} : valueAt (kvs ++ [(k, v)]) c = (valueAt kvs c).or (if k = c then some v else none) := by
  unfold valueAt
  rw [List.find?_append]
  cases h : kvs.find? (fun kv => decide (kv.1 = c)) with
  | some p => simp
  | none =>
    by_cases e : k = c
    · rw [if_pos e, List.find?_cons_of_pos (p := fun kv : Int × Value => decide (kv.1 = c)) (by simpa using e)]; rfl
    · rw [if_neg e, List.find?_cons_of_neg (p := fun kv : Int × Value => decide (kv.1 = c)) (by simpa using e)]; rfl
theorem Tabs.none {w : World} {led : Led} {i : Nat} {kvs : List (Int × Value)} {bs : List Bool} (h : Tabs w led i kvs bs) : (∀ j : Nat, i ≤ j → valueAt kvs (j : Int) = Option.none) ∧ kvs.length = i ∧ bs.length = i := by
  induction h with
  | nil => exact ⟨fun _ _ => rfl, rfl, rfl⟩
  | snoc _ _ _ _ ih =>
    obtain ⟨ih, il, ib⟩ := ih
    refine ⟨fun j hj => ?_, by simp [il], by simp [ib]⟩
    rw [valueAt_app, ih j (by omega), if_neg (by omega)]; rfl
theorem Knw.none {i : Nat} {kvs : List (Int × Value)} {bs : List Bool} (h : Knw i kvs bs) : (∀ j : Nat, i ≤ j → valueAt kvs ((3 + j : Nat) : Int) = Option.none) ∧ kvs.length = i ∧ bs.length = i := by
  induction h with
  | nil => exact ⟨fun _ _ => rfl, rfl, rfl⟩
  | snoc _ ih =>
    obtain ⟨ih, il, ib⟩ := ih
    refine ⟨fun j hj => ?_, by simp [il], by simp [ib]⟩
    rw [valueAt_app, ih j (by omega), if_neg (by omega)]; rfl
/-- the three leaves are known -/
theorem Knw.kv {T : List Key} (wf : Wf T) {kvs : List (Int × Value)} {bs : List Bool} (h : Knw 3 kvs bs) : Kv (VT (fun i => bs.getD i false) T) kvs [3, 4, 5] 3 := by
  have hl := h.none.2.1
  cases h with
  | @snoc _ kvs2 bs2 β2 t2 h => cases h with
    | @snoc _ kvs1 bs1 β1 t1 h => cases h with
      | @snoc _ kvs0 bs0 β0 t0 h =>
        cases h
        have e3 : ev (fun i => ([] ++ [β0] ++ [β1] ++ [β2]).getD i false) T 3 = β0 := by rw [ev_eq wf wf.n3 (by decide)]; rfl
        have e4 : ev (fun i => ([] ++ [β0] ++ [β1] ++ [β2]).getD i false) T 4 = β1 := by rw [ev_eq wf wf.n4 (by decide)]; rfl
        have e5 : ev (fun i => ([] ++ [β0] ++ [β1] ++ [β2]).getD i false) T 5 = β2 := by rw [ev_eq wf wf.n5 (by decide)]; rfl
        refine ⟨?_, ?_, Nat.le_of_eq hl⟩
        · intro c hc
          simp only [List.mem_cons, List.not_mem_nil, or_false] at hc
          rcases hc with rfl | rfl | rfl <;> rfl
        · intro c v hv
          rw [valueAt_app, valueAt_app, valueAt_app] at hv
          have e0 : valueAt ([] : List (Int × Value)) (c : Int) = Option.none := rfl
          rw [e0, Option.none_or] at hv
          by_cases h3 : c = 3
          · subst h3
            obtain rfl := Option.some.inj (show some (Value.int (bz β0) t0) = some v from hv)
            exact ⟨t0, by rw [e3]⟩
          · rw [if_neg (by omega), Option.none_or] at hv
            by_cases h4 : c = 4
            · subst h4
              obtain rfl := Option.some.inj (show some (Value.int (bz β1) t1) = some v from hv)
              exact ⟨t1, by rw [e4]⟩
            · rw [if_neg (by omega), Option.none_or] at hv
              by_cases h5 : c = 5
              · subst h5
                obtain rfl := Option.some.inj (show some (Value.int (bz β2) t2) = some v from hv)
                exact ⟨t2, by rw [e5]⟩
              · rw [if_neg (by omega)] at hv; exact nomatch hv
/- N6 -/
set_option maxHeartbeats 8000000 in
theorem not_does (w : World) {D U : Nat} (hD : D < 490) (hU : U < 900) {a : BA} {b : BS} {rest : Led} {n : Nat} {tn : Tok}
  (hA : a.Ok) (hB : Bank w rest b) (wf : Wf b.T) (hlen : b.T.length ≤ 999) (off : OwnOff rest a.adr) (hn : Tn b.T n) :
  Does w 480 [.ref a.bk, .int n tn] D U (BL a b ++ rest) (TermPost w a b rest) := by
  have hA' := hA
  have off' := off
  refine' does_intro' (names := [Str.ofString "self", Str.ofString "t"]) (k := 0) (vals := [some (.ref a.bk), some (.int n tn)]) ?hvals ?ho ?hcd ?hD ?hbind ?hall ?hnd ?hco ?hgen ?hk ?hcell ?body
  tb_start
  intro K A0 base mean mg mb g L h gs dr os tk0 Q lv B X T F N lt hdp hun hq
  have hd1 := Nat.lt_of_le_of_lt hdp (Nat.add_lt_add_right hD 1)
  have hu1 := Nat.lt_of_le_of_lt hun (Nat.add_lt_add_right hU 3)
  show wpAny _ _ (execs (_ :: _) _) _ _ _
  have v0 := lv 0 (Str.ofString "self") rfl
  have v1 := lv 1 (Str.ofString "t") rfl
  clear lv
  obtain ⟨bk, bd, sw, fr, to, ta, ts, td, nm, es, nE, swO, frO⟩ := a
  obtain ⟨c1, c2, c3, c4, c5, c6, c7, c8, lo, htn, hfn, g1, g2, g3, g4, g5, g6, g7, hno⟩ := hA
  dsimp only [BL, BA.adr, List.cons_append, List.nil_append] at *
  have q_want : getL (Str.ofString "want") es = some none := hno "want" (by decide)
  have q_make : getL (Str.ofString "make") es = some none := hno "make" (by decide)
  obtain ⟨k, hk⟩ := hn.key
  have hok := wf.ok n k hk hn.1
  have hl6 := wf.len
  obtain ⟨tt, htn⟩ := htn
  obtain ⟨tf, hfn⟩ := hfn
  by_cases hop : k.1 = Str.ofString "not"
  · have : ∃ m : Nat, k.2.1 = [(m : Int)] ∧ 1 ≤ m ∧ m < n := by
      cases hok with
      | not x hx =>
        obtain ⟨m, rfl⟩ := Int.eq_ofNat_of_zero_le (show 0 ≤ x by have := hx.1; omega)
        exact ⟨m, rfl, by have := hx.1; omega, by have := hx.2; omega⟩
      | _ => (dsimp only at hop; exact absurd hop (by decide))
    obtain ⟨m, hm, hm1, hm2⟩ := this
    obtain ⟨k1, k2, k3⟩ := k
    dsimp only at hop hm
    subst hop hm
    refine x_exprN (h := ?_)
    refine e_mcall (hk := mk_want _) (h := ?_)
    refine wa_v (h := ?_)
    refine wa_cons (h := ?_)
    refine e_globI (hk := (gk_BOOL _)) (h := ?_); intro _
    refine wa_cons (h := ?_)
    refine e_str (h := ?_)
    refine wa_nil (h := ?_)
    refine ⟨In.of (by with_reducible assumption) (by with_reducible assumption), ?_⟩
    (refine' Does.use' (want_does _ ?hDz61 ?hUz61 ?hAz61 ?hBz61 ?hlenz61 ?hsubz61 ?htz61) ?haz61 ?Bz61 ?Xz61 ?Tz61 ?Fz61 ?Nz61 ?hkz61 (Nat.le_refl _) (Nat.le_refl _) ?_; (case hAz61 => assumption); (case hBz61 => assumption); (case haz61 => exact rfl); (case hDz61 => omega); (case hUz61 => omega); (case hlenz61 => omega); (case htz61 => assumption); (case Bz61 => assumption); (case Xz61 => assumption); (case Tz61 => assumption); (case Fz61 => assumption); (case Nz61 => assumption); (case hsubz61 => kst_all); (case hkz61 => exact rfl)); rintro _ _ _ _ _ _ ⟨rfl, rfl⟩; k_sweep; (try refine ⟨rfl, ?_⟩)
    refine x_if (h := ?_)
    refine t_cmp (h := ?_)
    refine Subscript_ ?_
    refine e_attr (hk := ak_term_ops _) (h := ?_)
    refine e_var (h := ?_)
    refine c_op (h := ?_); intro _
    refine e_str (h := ?_)
    refine eq_str ?_
    refine truthy_b (h := ?_)
    refine if_t (hc := (by kernel_rfl!)) (h := ?_)
    refine x_ret (h := ?_)
    refine Subscript_ ?_
    refine Subscript_ ?_
    refine e_attr (hk := ak_term_args _) (h := ?_)
    refine e_var (h := ?_)
    refine c_args (h := ?_); intro _ _
    refine e_int (h := ?_)
    refine c_tup0 (h := ?_); intro _
    exact hq _ _ (back (by assumption) (by assumption) rfl (term_same hB wf ⟨hm1, by have := hn.2; omega⟩))
  · have hop' : (k.1 == Str.ofString "not") = false := by rw [beq_eq_false_iff_ne]; exact hop
    refine x_exprN (h := ?_)
    refine e_mcall (hk := mk_want _) (h := ?_)
    refine wa_v (h := ?_)
    refine wa_cons (h := ?_)
    refine e_globI (hk := (gk_BOOL _)) (h := ?_); intro _
    refine wa_cons (h := ?_)
    refine e_str (h := ?_)
    refine wa_nil (h := ?_)
    refine ⟨In.of (by with_reducible assumption) (by with_reducible assumption), ?_⟩
    (refine' Does.use' (want_does _ ?hDz62 ?hUz62 ?hAz62 ?hBz62 ?hlenz62 ?hsubz62 ?htz62) ?haz62 ?Bz62 ?Xz62 ?Tz62 ?Fz62 ?Nz62 ?hkz62 (Nat.le_refl _) (Nat.le_refl _) ?_; (case hAz62 => assumption); (case hBz62 => assumption); (case haz62 => exact rfl); (case hDz62 => omega); (case hUz62 => omega); (case hlenz62 => omega); (case htz62 => assumption); (case Bz62 => assumption); (case Xz62 => assumption); (case Tz62 => assumption); (case Fz62 => assumption); (case Nz62 => assumption); (case hsubz62 => kst_all); (case hkz62 => exact rfl)); rintro _ _ _ _ _ _ ⟨rfl, rfl⟩; k_sweep; (try refine ⟨rfl, ?_⟩)
    refine x_if (h := ?_)
    refine t_cmp (h := ?_)
    refine Subscript_ ?_
    refine e_attr (hk := ak_term_ops _) (h := ?_)
    refine e_var (h := ?_)
    refine c_op (h := ?_); intro _
    refine e_str (h := ?_)
    refine eq_str ?_
    refine truthy_b (h := ?_)
    refine if_f (hc := (by kst_p2)) (h := ?_)
    refine x_if (h := ?_)
    refine t_cmp (h := ?_)
    refine e_var (h := ?_)
    refine e_attr (hk := ak_true_number _) (h := ?_)
    refine eq_int ?_
    refine truthy_b (h := ?_)
    walk_at "pif"
    focus
      refine x_ret (h := ?_)
      refine e_attr (hk := ak_false_number _) (h := ?_)
    rotate_left
    focus
      refine x_if (h := ?_)
      refine t_cmp (h := ?_)
      refine e_var (h := ?_)
      refine e_attr (hk := ak_false_number _) (h := ?_)
      refine eq_int ?_
      refine truthy_b (h := ?_)
      walk_at "pif"
      focus
        refine x_ret (h := ?_)
        refine e_attr (hk := ak_true_number _) (h := ?_)
      rotate_left
      focus
        refine x_ret (h := ?_)
        refine e_mcall (hk := mk_make _) (h := ?_)
        refine wa_cons (h := ?_)
        refine e_str (h := ?_)
        refine wa_cons (h := ?_)
        refine e_tup (h := ?_)
        refine wa_v1 (h := ?_)
        refine n_tup (h := ?_); walk_at "p1"
        refine wa_cons (h := ?_)
        refine e_globI (hk := (gk_BOOL _)) (h := ?_); intro _
        refine wa_cons (h := ?_)
        refine e_int (h := ?_)
        refine wa_nil (h := ?_)
        refine ⟨In.of (by with_reducible assumption) (by with_reducible assumption), ?_⟩
        (refine' make_call ?Bz63 ?Xz63 ?Tz63 ?Fz63 ?Nz63 ?hkz63 ?hdpz63 ?hunz63 ?hAz63 ?hBz63 ?wfz63 ?hlenz63 ?offz63 ?hiz63 ?l1z63 ?hnodez63 ?hxz63 ?_; (case hAz63 => assumption); (case hBz63 => assumption); (case hxz63 => exact rfl); (case Bz63 => assumption); (case Xz63 => assumption); (case Tz63 => assumption); (case Fz63 => assumption); (case Nz63 => assumption); (case hkz63 => exact rfl); (case hdpz63 => omega); (case hunz63 => omega); (case wfz63 => assumption); (case hlenz63 => omega); (case offz63 => assumption); (case hiz63 => kst_p); (case l1z63 => assumption); (case hnodez63 => kst_p1)); intro _ _ _ _ _ _ _
      rotate_left
    rotate_left 2
    · exact hq _ _ (back (by assumption) (by assumption) rfl (term_same (n := 2) hB wf ⟨by omega, by omega⟩))
    · exact hq _ _ (back (by assumption) (by assumption) rfl (term_same (n := 1) hB wf ⟨by omega, by omega⟩))
    · rename TermPost _ _ _ _ _ _ => hP'; exact hq _ _ (back (by assumption) (by assumption) rfl hP')
set_option maxHeartbeats 8000000 in
theorem ite_does (w : World) {D U : Nat} (hD : D < 490) (hU : U < 900) {a : BA} {b : BS} {rest : Led} {c x y : Nat} {tc tx ty : Tok}
  (hA : a.Ok) (hB : Bank w rest b) (wf : Wf b.T) (hlen : b.T.length ≤ 999) (off : OwnOff rest a.adr) (hc : Tn b.T c) (hx : Tn b.T x) (hy : Tn b.T y) :
  Does w 536 [.ref a.bk, .int c tc, .int x tx, .int y ty] D U (BL a b ++ rest) (TermPost w a b rest) := by
  have hA' := hA
  have off' := off
  refine' does_intro' (names := [Str.ofString "self", Str.ofString "c", Str.ofString "a", Str.ofString "b"]) (k := 0) (vals := [some (.ref a.bk), some (.int c tc), some (.int x tx), some (.int y ty)]) ?hvals ?ho ?hcd ?hD ?hbind ?hall ?hnd ?hco ?hgen ?hk ?hcell ?body
  tb_start
  intro K A0 base mean mg mb g L h gs dr os tk0 Q lv B X T F N lt hdp hun hq
  have hd1 := Nat.lt_of_le_of_lt hdp (Nat.add_lt_add_right hD 1)
  have hu1 := Nat.lt_of_le_of_lt hun (Nat.add_lt_add_right hU 3)
  show wpAny _ _ (execs (_ :: _) _) _ _ _
  have v0 := lv 0 (Str.ofString "self") rfl
  have v1 := lv 1 (Str.ofString "c") rfl
  have v2 := lv 2 (Str.ofString "a") rfl
  have v3 := lv 3 (Str.ofString "b") rfl
  clear lv
  obtain ⟨bk, bd, sw, fr, to, ta, ts, td, nm, es, nE, swO, frO⟩ := a
  obtain ⟨c1, c2, c3, c4, c5, c6, c7, c8, lo, htn, hfn, g1, g2, g3, g4, g5, g6, g7, hno⟩ := hA
  dsimp only [BL, BA.adr, List.cons_append, List.nil_append] at *
  have q_want : getL (Str.ofString "want") es = some none := hno "want" (by decide)
  have q_make : getL (Str.ofString "make") es = some none := hno "make" (by decide)
  obtain ⟨kc, hkc⟩ := hc.key
  obtain ⟨kx, hkx⟩ := hx.key
  obtain ⟨ky, hky⟩ := hy.key
  refine x_exprN (h := ?_)
  refine e_mcall (hk := mk_want _) (h := ?_)
  refine wa_v (h := ?_)
  refine wa_cons (h := ?_)
  refine e_globI (hk := (gk_BOOL _)) (h := ?_); intro _
  refine wa_cons (h := ?_)
  refine e_str (h := ?_)
  refine wa_nil (h := ?_)
  refine ⟨In.of (by with_reducible assumption) (by with_reducible assumption), ?_⟩
  (refine' Does.use' (want_does _ ?hDz42 ?hUz42 ?hAz42 ?hBz42 ?hlenz42 ?hsubz42 ?htz42) ?haz42 ?Bz42 ?Xz42 ?Tz42 ?Fz42 ?Nz42 ?hkz42 (Nat.le_refl _) (Nat.le_refl _) ?_; (case hAz42 => assumption); (case hBz42 => assumption); (case haz42 => exact rfl); (case hDz42 => omega); (case hUz42 => omega); (case hlenz42 => omega); (case htz42 => assumption); (case Bz42 => assumption); (case Xz42 => assumption); (case Tz42 => assumption); (case Fz42 => assumption); (case Nz42 => assumption); (case hsubz42 => kst_all); (case hkz42 => exact rfl)); rintro _ _ _ _ _ _ ⟨rfl, rfl⟩; k_sweep; (try refine ⟨rfl, ?_⟩)
  refine x_exprN (h := ?_)
  refine e_mcall (hk := mk_want _) (h := ?_)
  refine wa_v (h := ?_)
  refine wa_cons (h := ?_)
  refine Subscript_ ?_
  refine e_attr (hk := ak_term_sorts _) (h := ?_)
  refine e_var (h := ?_)
  refine c_sort (h := ?_); intro _
  refine wa_cons (h := ?_)
  refine e_str (h := ?_)
  refine wa_nil (h := ?_)
  refine ⟨In.of (by with_reducible assumption) (by with_reducible assumption), ?_⟩
  (refine' Does.use' (want_does _ ?hDz43 ?hUz43 ?hAz43 ?hBz43 ?hlenz43 ?hsubz43 ?htz43) ?haz43 ?Bz43 ?Xz43 ?Tz43 ?Fz43 ?Nz43 ?hkz43 (Nat.le_refl _) (Nat.le_refl _) ?_; (case hAz43 => assumption); (case hBz43 => assumption); (case haz43 => exact rfl); (case hDz43 => omega); (case hUz43 => omega); (case hlenz43 => omega); (case htz43 => assumption); (case Bz43 => assumption); (case Xz43 => assumption); (case Tz43 => assumption); (case Fz43 => assumption); (case Nz43 => assumption); (case hsubz43 => kst_all); (case hkz43 => exact rfl)); rintro _ _ _ _ _ _ ⟨rfl, rfl⟩; k_sweep; (try refine ⟨rfl, ?_⟩)
  refine x_ret (h := ?_)
  refine e_mcall (hk := mk_make _) (h := ?_)
  refine wa_cons (h := ?_)
  refine e_str (h := ?_)
  refine wa_cons (h := ?_)
  refine e_tup (h := ?_)
  refine wa_v (h := ?_)
  refine wa_v (h := ?_)
  refine wa_v1 (h := ?_)
  refine n_tup (h := ?_); walk_at "p1"
  refine wa_cons (h := ?_)
  refine Subscript_ ?_
  refine e_attr (hk := ak_term_sorts _) (h := ?_)
  refine e_var (h := ?_)
  refine c_sort (h := ?_); intro _
  refine wa_cons (h := ?_)
  refine e_int (h := ?_)
  refine wa_nil (h := ?_)
  refine ⟨In.of (by with_reducible assumption) (by with_reducible assumption), ?_⟩
  (refine' make_call ?Bz44 ?Xz44 ?Tz44 ?Fz44 ?Nz44 ?hkz44 ?hdpz44 ?hunz44 ?hAz44 ?hBz44 ?wfz44 ?hlenz44 ?offz44 ?hiz44 ?l1z44 ?hnodez44 ?hxz44 ?_; (case hAz44 => assumption); (case hBz44 => assumption); (case hxz44 => exact rfl); (case Bz44 => assumption); (case Xz44 => assumption); (case Tz44 => assumption); (case Fz44 => assumption); (case Nz44 => assumption); (case hkz44 => exact rfl); (case hdpz44 => omega); (case hunz44 => omega); (case wfz44 => assumption); (case hlenz44 => omega); (case offz44 => assumption); (case hiz44 => kst_p); (case l1z44 => assumption); (case hnodez44 => kst_p1)); intro _ _ _ _ _ _ _
  all_goals (rename TermPost _ _ _ _ _ _ => hP'; exact hq _ _ (back (by assumption) (by assumption) rfl hP'))
set_option maxHeartbeats 8000000 in
theorem bool_does (w : World) {D U : Nat} (hD : D < 490) (hU : U < 900) {a : BA} {b : BS} {rest news : Led} {h0 : Bool}
  (hA : a.Ok) (wf : Wf b.T) (hsub : ∀ p ∈ BL a b ++ rest, p ∈ news) :
  Does w 445 [.ref a.bk, .bool h0] D U news (fun v news' => (∃ (n : Nat) (t : Tok), v = .int n t ∧ Tn b.T n) ∧ news' = news) := by
  refine' does_intro' (names := [Str.ofString "self", Str.ofString "holds"]) (k := 0) (vals := [some (.ref a.bk), some (.bool h0)]) ?hvals ?ho ?hcd ?hD ?hbind ?hall ?hnd ?hco ?hgen ?hk ?hcell ?body
  tb_start
  intro K A0 base mean mg mb g L h gs dr os tk0 Q lv B X T F N lt hdp hun hq
  have hd1 := Nat.lt_of_le_of_lt hdp (Nat.add_lt_add_right hD 1)
  have hu1 := Nat.lt_of_le_of_lt hun (Nat.add_lt_add_right hU 3)
  show wpAny _ _ (execs (_ :: _) _) _ _ _
  have v0 := lv 0 (Str.ofString "self") rfl
  have v1 := lv 1 (Str.ofString "holds") rfl
  clear lv
  obtain ⟨bk, bd, sw, fr, to, ta, ts, td, nm, es, nE, swO, frO⟩ := a
  obtain ⟨c1, c2, c3, c4, c5, c6, c7, c8, lo, htn, hfn, g1, g2, g3, g4, g5, g6, g7, hno⟩ := hA
  dsimp only [BL, BA.adr, List.cons_append, List.nil_append] at *
  have m1 := hsub _ (.head _)
  have m2 := hsub _ (.tail _ (.head _))
  have m3 := hsub _ (.tail _ (.tail _ (.head _)))
  have m4 := hsub _ (.tail _ (.tail _ (.tail _ (.head _))))
  have m5 := hsub _ (.tail _ (.tail _ (.tail _ (.tail _ (.head _)))))
  have m6 := hsub _ (.tail _ (.tail _ (.tail _ (.tail _ (.tail _ (.head _))))))
  have m7 := hsub _ (.tail _ (.tail _ (.tail _ (.tail _ (.tail _ (.tail _ (.head _)))))))
  have m8 := hsub _ (.tail _ (.tail _ (.tail _ (.tail _ (.tail _ (.tail _ (.tail _ (.head _))))))))
  have hsr : ∀ p ∈ rest, p ∈ news := fun p hp => hsub p (.tail _ (.tail _ (.tail _ (.tail _ (.tail _ (.tail _ (.tail _ (.tail _ (.tail _ hp)))))))))
  have hl6 := wf.len
  obtain ⟨tt, htn⟩ := htn
  obtain ⟨tf, hfn⟩ := hfn
  refine x_ret (h := ?_)
  refine IfExp_ ?_
  (refine' isTrue_plain ?_ ?hz3; (case hz3 => exact rfl))
  refine e_var (h := ?_)
  refine truthy_b (h := ?_)
  walk_at "pif"
  focus
    refine e_attr (hk := ak_true_number _) (h := ?_)
  rotate_left
  focus
    refine e_attr (hk := ak_false_number _) (h := ?_)
  rotate_left
  · exact hq _ _ (back (by assumption) (by assumption) rfl ⟨⟨1, _, rfl, by omega, by omega⟩, rfl⟩)
  · exact hq _ _ (back (by assumption) (by assumption) rfl ⟨⟨2, _, rfl, by omega, by omega⟩, rfl⟩)
/- N7 -/
set_option maxHeartbeats 8000000 in
theorem xor_does (w : World) {D U : Nat} (hD : D < 490) (hU : U < 900) {a : BA} {b : BS} {rest : Led} {x y : Nat} {tx ty : Tok}
  (hA : a.Ok) (hB : Bank w rest b) (wf : Wf b.T) (hlen : b.T.length ≤ 999) (off : OwnOff rest a.adr) (hx : Tn b.T x) (hy : Tn b.T y) :
  Does w 501 [.ref a.bk, .int x tx, .int y ty] D U (BL a b ++ rest) (TermPost w a b rest) := by
  have hA' := hA
  have off' := off
  refine' does_intro' (names := [Str.ofString "self", Str.ofString "a", Str.ofString "b"]) (k := 0) (vals := [some (.ref a.bk), some (.int x tx), some (.int y ty)]) ?hvals ?ho ?hcd ?hD ?hbind ?hall ?hnd ?hco ?hgen ?hk ?hcell ?body
  tb_start
  intro K A0 base mean mg mb g L h gs dr os tk0 Q lv B X T F N lt hdp hun hq
  have hd1 := Nat.lt_of_le_of_lt hdp (Nat.add_lt_add_right hD 1)
  have hu1 := Nat.lt_of_le_of_lt hun (Nat.add_lt_add_right hU 3)
  show wpAny _ _ (execs (_ :: _) _) _ _ _
  have v0 := lv 0 (Str.ofString "self") rfl
  have v1 := lv 1 (Str.ofString "a") rfl
  have v2 := lv 2 (Str.ofString "b") rfl
  clear lv
  obtain ⟨bk, bd, sw, fr, to, ta, ts, td, nm, es, nE, swO, frO⟩ := a
  obtain ⟨c1, c2, c3, c4, c5, c6, c7, c8, lo, htn, hfn, g1, g2, g3, g4, g5, g6, g7, hno⟩ := hA
  dsimp only [BL, BA.adr, List.cons_append, List.nil_append] at *
  have q_want_all : getL (Str.ofString "want_all") es = some none := hno "want_all" (by decide)
  have q_make : getL (Str.ofString "make") es = some none := hno "make" (by decide)
  obtain ⟨kx, hkx⟩ := hx.key
  obtain ⟨ky, hky⟩ := hy.key
  refine x_exprN (h := ?_)
  refine e_mcall (hk := mk_want_all _) (h := ?_)
  refine wa_cons (h := ?_)
  refine e_tup (h := ?_)
  refine wa_v (h := ?_)
  refine wa_v1 (h := ?_)
  refine n_tup (h := ?_); walk_at "p1"
  refine wa_cons (h := ?_)
  refine e_globI (hk := (gk_BOOL _)) (h := ?_); intro _
  refine wa_cons (h := ?_)
  refine e_str (h := ?_)
  refine wa_nil (h := ?_)
  refine ⟨In.of (by with_reducible assumption) (by with_reducible assumption), ?_⟩
  (refine' Does.use' (want_all_does _ ?hDz109 ?hUz109 ?hAz109 ?hBz109 ?hlenz109 ?hsubz109 ?hlz109 ?hoz109 ?hiz109 ?hrz109) ?haz109 ?Bz109 ?Xz109 ?Tz109 ?Fz109 ?Nz109 ?hkz109 (Nat.le_refl _) (Nat.le_refl _) ?_; (case hAz109 => assumption); (case hBz109 => assumption); (case haz109 => exact rfl); (case hDz109 => omega); (case hUz109 => omega); (case hlenz109 => omega); (case Bz109 => assumption); (case Xz109 => assumption); (case Tz109 => assumption); (case Fz109 => assumption); (case Nz109 => assumption); (case hsubz109 => kst_all); (case hlz109 => k_mem); (case hoz109 => first | exact Or.inr rfl | exact Or.inl rfl); (case hiz109 => kst_p); (case hrz109 => intro x hx; simp only [List.mem_cons, List.not_mem_nil, or_false] at hx; omega); (case hkz109 => exact rfl)); rintro _ _ _ _ _ _ ⟨rfl, rfl⟩; k_sweep; (try refine ⟨rfl, ?_⟩)
  refine x_ret (h := ?_)
  refine e_mcall (hk := mk_make _) (h := ?_)
  refine wa_cons (h := ?_)
  refine e_str (h := ?_)
  refine wa_cons (h := ?_)
  refine e_tup (h := ?_)
  refine wa_v (h := ?_)
  refine wa_v1 (h := ?_)
  refine n_tup (h := ?_); walk_at "p1"
  refine wa_cons (h := ?_)
  refine e_globI (hk := (gk_BOOL _)) (h := ?_); intro _
  refine wa_cons (h := ?_)
  refine e_int (h := ?_)
  refine wa_nil (h := ?_)
  refine ⟨In.of (by with_reducible assumption) (by with_reducible assumption), ?_⟩
  (refine' make_call1 ?Bz110 ?Xz110 ?Tz110 ?Fz110 ?Nz110 ?hkz110 ?hdpz110 ?hunz110 ?hAz110 ?hBz110 ?wfz110 ?hlenz110 ?offz110 ?hiz110 ?l1z110 ?l0z110 ?hnodez110 ?hxz110 ?_; (case hAz110 => assumption); (case hBz110 => assumption); (case hxz110 => exact rfl); (case Bz110 => assumption); (case Xz110 => assumption); (case Tz110 => assumption); (case Fz110 => assumption); (case Nz110 => assumption); (case hkz110 => exact rfl); (case hdpz110 => omega); (case hunz110 => omega); (case wfz110 => assumption); (case hlenz110 => omega); (case offz110 => assumption); (case hiz110 => kst_p); (case l1z110 => assumption); (case l0z110 => assumption); (case hnodez110 => kst_p1)); intro _ _ _ _ _ _ _
  all_goals (rename TermPost _ _ _ _ _ _ => hP'; exact hq _ _ (back (by assumption) (by assumption) rfl hP'))
set_option maxHeartbeats 8000000 in
theorem imp_does (w : World) {D U : Nat} (hD : D < 490) (hU : U < 900) {a : BA} {b : BS} {rest : Led} {x y : Nat} {tx ty : Tok}
  (hA : a.Ok) (hB : Bank w rest b) (wf : Wf b.T) (hlen : b.T.length ≤ 999) (off : OwnOff rest a.adr) (hx : Tn b.T x) (hy : Tn b.T y) :
  Does w 508 [.ref a.bk, .int x tx, .int y ty] D U (BL a b ++ rest) (TermPost w a b rest) := by
  have hA' := hA
  have off' := off
  refine' does_intro' (names := [Str.ofString "self", Str.ofString "a", Str.ofString "b"]) (k := 0) (vals := [some (.ref a.bk), some (.int x tx), some (.int y ty)]) ?hvals ?ho ?hcd ?hD ?hbind ?hall ?hnd ?hco ?hgen ?hk ?hcell ?body
  tb_start
  intro K A0 base mean mg mb g L h gs dr os tk0 Q lv B X T F N lt hdp hun hq
  have hd1 := Nat.lt_of_le_of_lt hdp (Nat.add_lt_add_right hD 1)
  have hu1 := Nat.lt_of_le_of_lt hun (Nat.add_lt_add_right hU 3)
  show wpAny _ _ (execs (_ :: _) _) _ _ _
  have v0 := lv 0 (Str.ofString "self") rfl
  have v1 := lv 1 (Str.ofString "a") rfl
  have v2 := lv 2 (Str.ofString "b") rfl
  clear lv
  obtain ⟨bk, bd, sw, fr, to, ta, ts, td, nm, es, nE, swO, frO⟩ := a
  obtain ⟨c1, c2, c3, c4, c5, c6, c7, c8, lo, htn, hfn, g1, g2, g3, g4, g5, g6, g7, hno⟩ := hA
  dsimp only [BL, BA.adr, List.cons_append, List.nil_append] at *
  have q_want_all : getL (Str.ofString "want_all") es = some none := hno "want_all" (by decide)
  have q_make : getL (Str.ofString "make") es = some none := hno "make" (by decide)
  obtain ⟨kx, hkx⟩ := hx.key
  obtain ⟨ky, hky⟩ := hy.key
  refine x_exprN (h := ?_)
  refine e_mcall (hk := mk_want_all _) (h := ?_)
  refine wa_cons (h := ?_)
  refine e_tup (h := ?_)
  refine wa_v (h := ?_)
  refine wa_v1 (h := ?_)
  refine n_tup (h := ?_); walk_at "p1"
  refine wa_cons (h := ?_)
  refine e_globI (hk := (gk_BOOL _)) (h := ?_); intro _
  refine wa_cons (h := ?_)
  refine e_str (h := ?_)
  refine wa_nil (h := ?_)
  refine ⟨In.of (by with_reducible assumption) (by with_reducible assumption), ?_⟩
  (refine' Does.use' (want_all_does _ ?hDz111 ?hUz111 ?hAz111 ?hBz111 ?hlenz111 ?hsubz111 ?hlz111 ?hoz111 ?hiz111 ?hrz111) ?haz111 ?Bz111 ?Xz111 ?Tz111 ?Fz111 ?Nz111 ?hkz111 (Nat.le_refl _) (Nat.le_refl _) ?_; (case hAz111 => assumption); (case hBz111 => assumption); (case haz111 => exact rfl); (case hDz111 => omega); (case hUz111 => omega); (case hlenz111 => omega); (case Bz111 => assumption); (case Xz111 => assumption); (case Tz111 => assumption); (case Fz111 => assumption); (case Nz111 => assumption); (case hsubz111 => kst_all); (case hlz111 => k_mem); (case hoz111 => first | exact Or.inr rfl | exact Or.inl rfl); (case hiz111 => kst_p); (case hrz111 => intro x hx; simp only [List.mem_cons, List.not_mem_nil, or_false] at hx; omega); (case hkz111 => exact rfl)); rintro _ _ _ _ _ _ ⟨rfl, rfl⟩; k_sweep; (try refine ⟨rfl, ?_⟩)
  refine x_ret (h := ?_)
  refine e_mcall (hk := mk_make _) (h := ?_)
  refine wa_cons (h := ?_)
  refine e_str (h := ?_)
  refine wa_cons (h := ?_)
  refine e_tup (h := ?_)
  refine wa_v (h := ?_)
  refine wa_v1 (h := ?_)
  refine n_tup (h := ?_); walk_at "p1"
  refine wa_cons (h := ?_)
  refine e_globI (hk := (gk_BOOL _)) (h := ?_); intro _
  refine wa_cons (h := ?_)
  refine e_int (h := ?_)
  refine wa_nil (h := ?_)
  refine ⟨In.of (by with_reducible assumption) (by with_reducible assumption), ?_⟩
  (refine' make_call1 ?Bz112 ?Xz112 ?Tz112 ?Fz112 ?Nz112 ?hkz112 ?hdpz112 ?hunz112 ?hAz112 ?hBz112 ?wfz112 ?hlenz112 ?offz112 ?hiz112 ?l1z112 ?l0z112 ?hnodez112 ?hxz112 ?_; (case hAz112 => assumption); (case hBz112 => assumption); (case hxz112 => exact rfl); (case Bz112 => assumption); (case Xz112 => assumption); (case Tz112 => assumption); (case Fz112 => assumption); (case Nz112 => assumption); (case hkz112 => exact rfl); (case hdpz112 => omega); (case hunz112 => omega); (case wfz112 => assumption); (case hlenz112 => omega); (case offz112 => assumption); (case hiz112 => kst_p); (case l1z112 => assumption); (case l0z112 => assumption); (case hnodez112 => kst_p1)); intro _ _ _ _ _ _ _
  all_goals (rename TermPost _ _ _ _ _ _ => hP'; exact hq _ _ (back (by assumption) (by assumption) rfl hP'))
/- N8 -/
set_option maxHeartbeats 8000000 in
theorem eq_does (w : World) {D U : Nat} (hD : D < 490) (hU : U < 900) {a : BA} {b : BS} {rest : Led} {x y : Nat} {tx ty : Tok}
  (hA : a.Ok) (hB : Bank w rest b) (wf : Wf b.T) (hlen : b.T.length ≤ 999) (off : OwnOff rest a.adr) (hx : Tn b.T x) (hy : Tn b.T y) :
  Does w 522 [.ref a.bk, .int x tx, .int y ty] D U (BL a b ++ rest) (TermPost w a b rest) := by
  have hA' := hA
  have off' := off
  refine' does_intro' (names := [Str.ofString "self", Str.ofString "a", Str.ofString "b"]) (k := 0) (vals := [some (.ref a.bk), some (.int x tx), some (.int y ty)]) ?hvals ?ho ?hcd ?hD ?hbind ?hall ?hnd ?hco ?hgen ?hk ?hcell ?body
  tb_start
  intro K A0 base mean mg mb g L h gs dr os tk0 Q lv B X T F N lt hdp hun hq
  have hd1 := Nat.lt_of_le_of_lt hdp (Nat.add_lt_add_right hD 1)
  have hu1 := Nat.lt_of_le_of_lt hun (Nat.add_lt_add_right hU 3)
  show wpAny _ _ (execs (_ :: _) _) _ _ _
  have v0 := lv 0 (Str.ofString "self") rfl
  have v1 := lv 1 (Str.ofString "a") rfl
  have v2 := lv 2 (Str.ofString "b") rfl
  clear lv
  obtain ⟨bk, bd, sw, fr, to, ta, ts, td, nm, es, nE, swO, frO⟩ := a
  obtain ⟨c1, c2, c3, c4, c5, c6, c7, c8, lo, htn, hfn, g1, g2, g3, g4, g5, g6, g7, hno⟩ := hA
  dsimp only [BL, BA.adr, List.cons_append, List.nil_append] at *
  have q_want : getL (Str.ofString "want") es = some none := hno "want" (by decide)
  have q_make : getL (Str.ofString "make") es = some none := hno "make" (by decide)
  obtain ⟨kx, hkx⟩ := hx.key
  obtain ⟨ky, hky⟩ := hy.key
  have hl6 := wf.len
  obtain ⟨tt, htn⟩ := htn
  refine x_exprN (h := ?_)
  refine e_mcall (hk := mk_want _) (h := ?_)
  refine wa_v (h := ?_)
  refine wa_cons (h := ?_)
  refine Subscript_ ?_
  refine e_attr (hk := ak_term_sorts _) (h := ?_)
  refine e_var (h := ?_)
  refine c_sort (h := ?_); intro _
  refine wa_cons (h := ?_)
  refine e_str (h := ?_)
  refine wa_nil (h := ?_)
  refine ⟨In.of (by with_reducible assumption) (by with_reducible assumption), ?_⟩
  (refine' Does.use' (want_does _ ?hDz12 ?hUz12 ?hAz12 ?hBz12 ?hlenz12 ?hsubz12 ?htz12) ?haz12 ?Bz12 ?Xz12 ?Tz12 ?Fz12 ?Nz12 ?hkz12 (Nat.le_refl _) (Nat.le_refl _) ?_; (case hAz12 => assumption); (case hBz12 => assumption); (case haz12 => exact rfl); (case hDz12 => omega); (case hUz12 => omega); (case hlenz12 => omega); (case htz12 => assumption); (case Bz12 => assumption); (case Xz12 => assumption); (case Tz12 => assumption); (case Fz12 => assumption); (case Nz12 => assumption); (case hsubz12 => kst_all); (case hkz12 => exact rfl)); rintro _ _ _ _ _ _ ⟨rfl, rfl⟩; k_sweep; (try refine ⟨rfl, ?_⟩)
  refine x_if (h := ?_)
  refine t_cmp (h := ?_)
  refine e_var (h := ?_)
  refine e_var (h := ?_)
  refine eq_int ?_
  refine truthy_b (h := ?_)
  walk_at "pif"
  focus
    refine x_ret (h := ?_)
    refine e_attr (hk := ak_true_number _) (h := ?_)
  rotate_left
  focus
    refine x_ret (h := ?_)
    refine e_mcall (hk := mk_make _) (h := ?_)
    refine wa_cons (h := ?_)
    refine e_str (h := ?_)
    refine wa_cons (h := ?_)
    refine e_tup (h := ?_)
    refine wa_cons (h := ?_)
    walk1
    walk1
    walk1
    walk1
    refine e_var (h := ?_)
    walk1
    refine e_var (h := ?_)
    walk1
    walk1
    refine wa_cons (h := ?_)
    walk1
    walk1
    walk1
    walk1
    refine e_var (h := ?_)
    walk1
    refine e_var (h := ?_)
    walk1
    walk1
    refine wa_nil (h := ?_)
    refine n_tup (h := ?_); walk_at "p1"
    refine wa_cons (h := ?_)
    refine e_globI (hk := (gk_BOOL _)) (h := ?_); intro _
    refine wa_cons (h := ?_)
    refine e_int (h := ?_)
    refine wa_nil (h := ?_)
    refine ⟨In.of (by with_reducible assumption) (by with_reducible assumption), ?_⟩
    (refine' make_call ?Bz13 ?Xz13 ?Tz13 ?Fz13 ?Nz13 ?hkz13 ?hdpz13 ?hunz13 ?hAz13 ?hBz13 ?wfz13 ?hlenz13 ?offz13 ?hiz13 ?l1z13 ?hnodez13 ?hxz13 ?_; (case hAz13 => assumption); (case hBz13 => assumption); (case hxz13 => exact rfl); (case Bz13 => assumption); (case Xz13 => assumption); (case Tz13 => assumption); (case Fz13 => assumption); (case Nz13 => assumption); (case hkz13 => exact rfl); (case hdpz13 => omega); (case hunz13 => omega); (case wfz13 => assumption); (case hlenz13 => omega); (case offz13 => assumption); (case hiz13 => kst_p); (case l1z13 => assumption); (case hnodez13 => kst_p1)); intro _ _ _ _ _ _ _
  rotate_left
  · exact hq _ _ (back (by assumption) (by assumption) rfl (term_same (n := 1) hB wf ⟨by omega, by omega⟩))
  · rename TermPost _ _ _ _ _ _ => hP'; exact hq _ _ (back (by assumption) (by assumption) rfl hP')
set_option maxHeartbeats 8000000 in
theorem and_does (w : World) {D U : Nat} (hD : D < 490) (hU : U < 900) {a : BA} {b : BS} {rest : Led} {ls : Addr} {x y z : Nat} {tx ty tz : Tok}
  (hA : a.Ok) (hB : Bank w rest b) (wf : Wf b.T) (hlen : b.T.length ≤ 999) (off : OwnOff rest a.adr) (hls : (ls, listOf [Value.int x tx, .int y ty, .int z tz].toArray 0) ∈ rest) (hx : Tn b.T x) (hy : Tn b.T y) (hz : Tn b.T z) :
  Does w 487 [.ref a.bk, .ref ls] D U (BL a b ++ rest) (TermPost w a b rest) := by
  have hA' := hA
  have off' := off
  refine' does_intro' (names := [Str.ofString "self", Str.ofString "some"]) (k := 0) (vals := [some (.ref a.bk), some (.ref ls)]) ?hvals ?ho ?hcd ?hD ?hbind ?hall ?hnd ?hco ?hgen ?hk ?hcell ?body
  tb_start
  intro K A0 base mean mg mb g L h gs dr os tk0 Q lv B X T F N lt hdp hun hq
  have hd1 := Nat.lt_of_le_of_lt hdp (Nat.add_lt_add_right hD 1)
  have hu1 := Nat.lt_of_le_of_lt hun (Nat.add_lt_add_right hU 3)
  show wpAny _ _ (execs (_ :: _) _) _ _ _
  have v0 := lv 0 (Str.ofString "self") rfl
  have v1 := lv 1 (Str.ofString "some") rfl
  clear lv
  obtain ⟨bk, bd, sw, fr, to, ta, ts, td, nm, es, nE, swO, frO⟩ := a
  obtain ⟨c1, c2, c3, c4, c5, c6, c7, c8, lo, htn, hfn, g1, g2, g3, g4, g5, g6, g7, hno⟩ := hA
  dsimp only [BL, BA.adr, List.cons_append, List.nil_append] at *
  have q_want_all : getL (Str.ofString "want_all") es = some none := hno "want_all" (by decide)
  have q_make : getL (Str.ofString "make") es = some none := hno "make" (by decide)
  refine x_exprN (h := ?_)
  refine e_mcall (hk := mk_want_all _) (h := ?_)
  refine wa_v (h := ?_)
  refine wa_cons (h := ?_)
  refine e_globI (hk := (gk_BOOL _)) (h := ?_); intro _
  refine wa_cons (h := ?_)
  refine e_str (h := ?_)
  refine wa_nil (h := ?_)
  refine ⟨In.of (by with_reducible assumption) (by with_reducible assumption), ?_⟩
  (refine' Does.use' (want_all_does _ ?hDz1 ?hUz1 ?hAz1 ?hBz1 ?hlenz1 ?hsubz1 ?hlz1 ?hoz1 ?hiz1 ?hrz1) ?haz1 ?Bz1 ?Xz1 ?Tz1 ?Fz1 ?Nz1 ?hkz1 (Nat.le_refl _) (Nat.le_refl _) ?_; (case hAz1 => assumption); (case hBz1 => assumption); (case haz1 => exact rfl); (case hDz1 => omega); (case hUz1 => omega); (case hlenz1 => omega); (case Bz1 => assumption); (case Xz1 => assumption); (case Tz1 => assumption); (case Fz1 => assumption); (case Nz1 => assumption); (case hsubz1 => kst_all); (case hlz1 => k_mem); (case hoz1 => first | exact Or.inr rfl | exact Or.inl rfl); (case hiz1 => kst_p); (case hrz1 => intro x hx; simp only [List.mem_cons, List.not_mem_nil, or_false] at hx; omega); (case hkz1 => exact rfl)); rintro _ _ _ _ _ _ ⟨rfl, rfl⟩; k_sweep; (try refine ⟨rfl, ?_⟩)
  refine x_if (h := ?_)
  refine t_cmp (h := ?_)
  refine e_bcall (hk := (bk_len _)) (hb := bb_len) (hne := bn_len) (h := ?_)
  refine wa_v1 (h := ?_)
  refine c_len (hz := by (first | (exact Nat.le_of_ble_eq_true rfl) | ((simp only [List.size_toArray, Array.size_push]); omega))) (h := ?_); try dsimp only
  refine e_int (h := ?_)
  refine eq_int ?_
  refine truthy_b (h := ?_)
  refine if_f (hc := (by kernel_rfl!)) (h := ?_)
  refine x_ret (h := ?_)
  refine IfExp_ ?_
  refine t_cmp (h := ?_)
  refine e_bcall (hk := (bk_len _)) (hb := bb_len) (hne := bn_len) (h := ?_)
  refine wa_v1 (h := ?_)
  refine c_len (hz := by (first | (exact Nat.le_of_ble_eq_true rfl) | ((simp only [List.size_toArray, Array.size_push]); omega))) (h := ?_); try dsimp only
  refine e_int (h := ?_)
  refine eq_int ?_
  refine truthy_b (h := ?_)
  refine if_f (hc := (by kernel_rfl!)) (h := ?_)
  refine e_mcall (hk := mk_make _) (h := ?_)
  refine wa_cons (h := ?_)
  refine e_str (h := ?_)
  refine wa_cons (h := ?_)
  walk1
  walk1
  walk1
  walk1
  refine e_var (h := ?_)
  walk1
  walk1
  refine wa_cons (h := ?_)
  refine e_globI (hk := (gk_BOOL _)) (h := ?_); intro _
  refine wa_cons (h := ?_)
  refine e_int (h := ?_)
  refine wa_nil (h := ?_)
  refine ⟨In.of (by with_reducible assumption) (by with_reducible assumption), ?_⟩
  (refine' make_call ?Bz2 ?Xz2 ?Tz2 ?Fz2 ?Nz2 ?hkz2 ?hdpz2 ?hunz2 ?hAz2 ?hBz2 ?wfz2 ?hlenz2 ?offz2 ?hiz2 ?l1z2 ?hnodez2 ?hxz2 ?_; (case hAz2 => assumption); (case hBz2 => assumption); (case hxz2 => exact rfl); (case Bz2 => assumption); (case Xz2 => assumption); (case Tz2 => assumption); (case Fz2 => assumption); (case Nz2 => assumption); (case hkz2 => exact rfl); (case hdpz2 => omega); (case hunz2 => omega); (case wfz2 => assumption); (case hlenz2 => omega); (case offz2 => assumption); (case hiz2 => kst_p); (case l1z2 => assumption); (case hnodez2 => kst_p1)); intro _ _ _ _ _ _ _
  all_goals (rename TermPost _ _ _ _ _ _ => hP'; exact hq _ _ (back (by assumption) (by assumption) rfl hP'))
/- N9 -/
set_option maxHeartbeats 8000000 in
theorem or_does (w : World) {D U : Nat} (hD : D < 490) (hU : U < 900) {a : BA} {b : BS} {rest : Led} {ls : Addr} {x y z : Nat} {tx ty tz : Tok}
  (hA : a.Ok) (hB : Bank w rest b) (wf : Wf b.T) (hlen : b.T.length ≤ 999) (off : OwnOff rest a.adr) (hls : (ls, listOf [Value.int x tx, .int y ty, .int z tz].toArray 0) ∈ rest) (hx : Tn b.T x) (hy : Tn b.T y) (hz : Tn b.T z) :
  Does w 494 [.ref a.bk, .ref ls] D U (BL a b ++ rest) (TermPost w a b rest) := by
  have hA' := hA
  have off' := off
  refine' does_intro' (names := [Str.ofString "self", Str.ofString "some"]) (k := 0) (vals := [some (.ref a.bk), some (.ref ls)]) ?hvals ?ho ?hcd ?hD ?hbind ?hall ?hnd ?hco ?hgen ?hk ?hcell ?body
  tb_start
  intro K A0 base mean mg mb g L h gs dr os tk0 Q lv B X T F N lt hdp hun hq
  have hd1 := Nat.lt_of_le_of_lt hdp (Nat.add_lt_add_right hD 1)
  have hu1 := Nat.lt_of_le_of_lt hun (Nat.add_lt_add_right hU 3)
  show wpAny _ _ (execs (_ :: _) _) _ _ _
  have v0 := lv 0 (Str.ofString "self") rfl
  have v1 := lv 1 (Str.ofString "some") rfl
  clear lv
  obtain ⟨bk, bd, sw, fr, to, ta, ts, td, nm, es, nE, swO, frO⟩ := a
  obtain ⟨c1, c2, c3, c4, c5, c6, c7, c8, lo, htn, hfn, g1, g2, g3, g4, g5, g6, g7, hno⟩ := hA
  dsimp only [BL, BA.adr, List.cons_append, List.nil_append] at *
  have q_want_all : getL (Str.ofString "want_all") es = some none := hno "want_all" (by decide)
  have q_make : getL (Str.ofString "make") es = some none := hno "make" (by decide)
  refine x_exprN (h := ?_)
  refine e_mcall (hk := mk_want_all _) (h := ?_)
  refine wa_v (h := ?_)
  refine wa_cons (h := ?_)
  refine e_globI (hk := (gk_BOOL _)) (h := ?_); intro _
  refine wa_cons (h := ?_)
  refine e_str (h := ?_)
  refine wa_nil (h := ?_)
  refine ⟨In.of (by with_reducible assumption) (by with_reducible assumption), ?_⟩
  (refine' Does.use' (want_all_does _ ?hDz64 ?hUz64 ?hAz64 ?hBz64 ?hlenz64 ?hsubz64 ?hlz64 ?hoz64 ?hiz64 ?hrz64) ?haz64 ?Bz64 ?Xz64 ?Tz64 ?Fz64 ?Nz64 ?hkz64 (Nat.le_refl _) (Nat.le_refl _) ?_; (case hAz64 => assumption); (case hBz64 => assumption); (case haz64 => exact rfl); (case hDz64 => omega); (case hUz64 => omega); (case hlenz64 => omega); (case Bz64 => assumption); (case Xz64 => assumption); (case Tz64 => assumption); (case Fz64 => assumption); (case Nz64 => assumption); (case hsubz64 => kst_all); (case hlz64 => k_mem); (case hoz64 => first | exact Or.inr rfl | exact Or.inl rfl); (case hiz64 => kst_p); (case hrz64 => intro x hx; simp only [List.mem_cons, List.not_mem_nil, or_false] at hx; omega); (case hkz64 => exact rfl)); rintro _ _ _ _ _ _ ⟨rfl, rfl⟩; k_sweep; (try refine ⟨rfl, ?_⟩)
  refine x_if (h := ?_)
  refine t_cmp (h := ?_)
  refine e_bcall (hk := (bk_len _)) (hb := bb_len) (hne := bn_len) (h := ?_)
  refine wa_v1 (h := ?_)
  refine c_len (hz := by (first | (exact Nat.le_of_ble_eq_true rfl) | ((simp only [List.size_toArray, Array.size_push]); omega))) (h := ?_); try dsimp only
  refine e_int (h := ?_)
  refine eq_int ?_
  refine truthy_b (h := ?_)
  refine if_f (hc := (by kernel_rfl!)) (h := ?_)
  refine x_ret (h := ?_)
  refine IfExp_ ?_
  refine t_cmp (h := ?_)
  refine e_bcall (hk := (bk_len _)) (hb := bb_len) (hne := bn_len) (h := ?_)
  refine wa_v1 (h := ?_)
  refine c_len (hz := by (first | (exact Nat.le_of_ble_eq_true rfl) | ((simp only [List.size_toArray, Array.size_push]); omega))) (h := ?_); try dsimp only
  refine e_int (h := ?_)
  refine eq_int ?_
  refine truthy_b (h := ?_)
  refine if_f (hc := (by kernel_rfl!)) (h := ?_)
  refine e_mcall (hk := mk_make _) (h := ?_)
  refine wa_cons (h := ?_)
  refine e_str (h := ?_)
  refine wa_cons (h := ?_)
  walk1
  walk1
  walk1
  walk1
  refine e_var (h := ?_)
  walk1
  walk1
  refine wa_cons (h := ?_)
  refine e_globI (hk := (gk_BOOL _)) (h := ?_); intro _
  refine wa_cons (h := ?_)
  refine e_int (h := ?_)
  refine wa_nil (h := ?_)
  refine ⟨In.of (by with_reducible assumption) (by with_reducible assumption), ?_⟩
  (refine' make_call ?Bz65 ?Xz65 ?Tz65 ?Fz65 ?Nz65 ?hkz65 ?hdpz65 ?hunz65 ?hAz65 ?hBz65 ?wfz65 ?hlenz65 ?offz65 ?hiz65 ?l1z65 ?hnodez65 ?hxz65 ?_; (case hAz65 => assumption); (case hBz65 => assumption); (case hxz65 => exact rfl); (case Bz65 => assumption); (case Xz65 => assumption); (case Tz65 => assumption); (case Fz65 => assumption); (case Nz65 => assumption); (case hkz65 => exact rfl); (case hdpz65 => omega); (case hunz65 => omega); (case wfz65 => assumption); (case hlenz65 => omega); (case offz65 => assumption); (case hiz65 => kst_p); (case l1z65 => assumption); (case hnodez65 => kst_p1)); intro _ _ _ _ _ _ _
  all_goals (rename TermPost _ _ _ _ _ _ => hP'; exact hq _ _ (back (by assumption) (by assumption) rfl hP'))
set_option maxHeartbeats 8000000 in
theorem dis3_does (w : World) {D U : Nat} (hD : D < 490) (hU : U < 900) {a : BA} {b : BS} {rest : Led} {ls : Addr} {x y z : Nat} {tx ty tz : Tok} {nls : Nat}
  (hA : a.Ok) (hB : Bank w rest b) (wf : Wf b.T) (hlen : b.T.length ≤ 999) (off : OwnOff rest a.adr) (hls : (ls, listOf [Value.int x tx, .int y ty, .int z tz].toArray nls) ∈ rest) (hx : Tn b.T x) (hy : Tn b.T y) (hz : Tn b.T z) :
  Does w 529 [.ref a.bk, .ref ls] D U (BL a b ++ rest) (TermPost w a b rest) := by
  have hA' := hA
  have off' := off
  refine' does_intro' (names := [Str.ofString "self", Str.ofString "some"]) (k := 0) (vals := [some (.ref a.bk), some (.ref ls)]) ?hvals ?ho ?hcd ?hD ?hbind ?hall ?hnd ?hco ?hgen ?hk ?hcell ?body
  tb_start
  intro K A0 base mean mg mb g L h gs dr os tk0 Q lv B X T F N lt hdp hun hq
  have hd1 := Nat.lt_of_le_of_lt hdp (Nat.add_lt_add_right hD 1)
  have hu1 := Nat.lt_of_le_of_lt hun (Nat.add_lt_add_right hU 3)
  show wpAny _ _ (execs (_ :: _) _) _ _ _
  have v0 := lv 0 (Str.ofString "self") rfl
  have v1 := lv 1 (Str.ofString "some") rfl
  clear lv
  obtain ⟨bk, bd, sw, fr, to, ta, ts, td, nm, es, nE, swO, frO⟩ := a
  obtain ⟨c1, c2, c3, c4, c5, c6, c7, c8, lo, htn, hfn, g1, g2, g3, g4, g5, g6, g7, hno⟩ := hA
  dsimp only [BL, BA.adr, List.cons_append, List.nil_append] at *
  have q_want_all : getL (Str.ofString "want_all") es = some none := hno "want_all" (by decide)
  have q_make : getL (Str.ofString "make") es = some none := hno "make" (by decide)
  obtain ⟨kx, hkx⟩ := hx.key
  obtain ⟨ky, hky⟩ := hy.key
  obtain ⟨kz, hkz⟩ := hz.key
  refine x_if (h := ?_)
  refine t_cmp (h := ?_)
  refine e_bcall (hk := (bk_len _)) (hb := bb_len) (hne := bn_len) (h := ?_)
  refine wa_v1 (h := ?_)
  refine c_len (hz := by (first | (exact Nat.le_of_ble_eq_true rfl) | ((simp only [List.size_toArray, Array.size_push]); omega))) (h := ?_); try dsimp only
  refine e_int (h := ?_)
  refine lt_int ?_
  refine truthy_b (h := ?_)
  refine if_f (hc := (by kernel_rfl!)) (h := ?_)
  refine x_exprN (h := ?_)
  refine e_mcall (hk := mk_want_all _) (h := ?_)
  refine wa_v (h := ?_)
  refine wa_cons (h := ?_)
  refine Subscript_ ?_
  refine e_attr (hk := ak_term_sorts _) (h := ?_)
  refine Subscript_ ?_
  refine e_var (h := ?_)
  refine e_int (h := ?_)
  refine c_itemL (h := ?_)
  refine c_sort (h := ?_); intro _
  refine wa_cons (h := ?_)
  refine e_str (h := ?_)
  refine wa_nil (h := ?_)
  refine ⟨In.of (by with_reducible assumption) (by with_reducible assumption), ?_⟩
  (refine' Does.use' (want_all_does _ ?hDz8 ?hUz8 ?hAz8 ?hBz8 ?hlenz8 ?hsubz8 ?hlz8 ?hoz8 ?hiz8 ?hrz8) ?haz8 ?Bz8 ?Xz8 ?Tz8 ?Fz8 ?Nz8 ?hkz8 (Nat.le_refl _) (Nat.le_refl _) ?_; (case hAz8 => assumption); (case hBz8 => assumption); (case haz8 => exact rfl); (case hDz8 => omega); (case hUz8 => omega); (case hlenz8 => omega); (case Bz8 => assumption); (case Xz8 => assumption); (case Tz8 => assumption); (case Fz8 => assumption); (case Nz8 => assumption); (case hsubz8 => kst_all); (case hlz8 => k_mem); (case hoz8 => first | exact Or.inr rfl | exact Or.inl rfl); (case hiz8 => kst_p); (case hrz8 => intro x hx; simp only [List.mem_cons, List.not_mem_nil, or_false] at hx; omega); (case hkz8 => exact rfl)); rintro _ _ _ _ _ _ ⟨rfl, rfl⟩; k_sweep; (try refine ⟨rfl, ?_⟩)
  refine x_ret (h := ?_)
  refine e_mcall (hk := mk_make _) (h := ?_)
  refine wa_cons (h := ?_)
  refine e_str (h := ?_)
  refine wa_cons (h := ?_)
  walk1
  walk1
  walk1
  walk1
  refine e_var (h := ?_)
  walk1
  walk1
  refine wa_cons (h := ?_)
  refine e_globI (hk := (gk_BOOL _)) (h := ?_); intro _
  refine wa_cons (h := ?_)
  refine e_int (h := ?_)
  refine wa_nil (h := ?_)
  refine ⟨In.of (by with_reducible assumption) (by with_reducible assumption), ?_⟩
  (refine' make_call ?Bz9 ?Xz9 ?Tz9 ?Fz9 ?Nz9 ?hkz9 ?hdpz9 ?hunz9 ?hAz9 ?hBz9 ?wfz9 ?hlenz9 ?offz9 ?hiz9 ?l1z9 ?hnodez9 ?hxz9 ?_; (case hAz9 => assumption); (case hBz9 => assumption); (case hxz9 => exact rfl); (case Bz9 => assumption); (case Xz9 => assumption); (case Tz9 => assumption); (case Fz9 => assumption); (case Nz9 => assumption); (case hkz9 => exact rfl); (case hdpz9 => omega); (case hunz9 => omega); (case wfz9 => assumption); (case hlenz9 => omega); (case offz9 => assumption); (case hiz9 => kst_p); (case l1z9 => assumption); (case hnodez9 => kst_p1)); intro _ _ _ _ _ _ _
  all_goals (rename TermPost _ _ _ _ _ _ => hP'; exact hq _ _ (back (by assumption) (by assumption) rfl hP'))
set_option maxHeartbeats 8000000 in
theorem dis2_does (w : World) {D U : Nat} (hD : D < 490) (hU : U < 900) {a : BA} {b : BS} {rest : Led} {ls : Addr} {x y : Nat} {tx ty : Tok} {nls : Nat}
  (hA : a.Ok) (hB : Bank w rest b) (wf : Wf b.T) (hlen : b.T.length ≤ 999) (off : OwnOff rest a.adr) (hls : (ls, listOf [Value.int x tx, .int y ty].toArray nls) ∈ rest) (hx : Tn b.T x) (hy : Tn b.T y) :
  Does w 529 [.ref a.bk, .ref ls] D U (BL a b ++ rest) (TermPost w a b rest) := by
  have hA' := hA
  have off' := off
  refine' does_intro' (names := [Str.ofString "self", Str.ofString "some"]) (k := 0) (vals := [some (.ref a.bk), some (.ref ls)]) ?hvals ?ho ?hcd ?hD ?hbind ?hall ?hnd ?hco ?hgen ?hk ?hcell ?body
  tb_start
  intro K A0 base mean mg mb g L h gs dr os tk0 Q lv B X T F N lt hdp hun hq
  have hd1 := Nat.lt_of_le_of_lt hdp (Nat.add_lt_add_right hD 1)
  have hu1 := Nat.lt_of_le_of_lt hun (Nat.add_lt_add_right hU 3)
  show wpAny _ _ (execs (_ :: _) _) _ _ _
  have v0 := lv 0 (Str.ofString "self") rfl
  have v1 := lv 1 (Str.ofString "some") rfl
  clear lv
  obtain ⟨bk, bd, sw, fr, to, ta, ts, td, nm, es, nE, swO, frO⟩ := a
  obtain ⟨c1, c2, c3, c4, c5, c6, c7, c8, lo, htn, hfn, g1, g2, g3, g4, g5, g6, g7, hno⟩ := hA
  dsimp only [BL, BA.adr, List.cons_append, List.nil_append] at *
  have q_want_all : getL (Str.ofString "want_all") es = some none := hno "want_all" (by decide)
  have q_make : getL (Str.ofString "make") es = some none := hno "make" (by decide)
  obtain ⟨kx, hkx⟩ := hx.key
  obtain ⟨ky, hky⟩ := hy.key
  refine x_if (h := ?_)
  refine t_cmp (h := ?_)
  refine e_bcall (hk := (bk_len _)) (hb := bb_len) (hne := bn_len) (h := ?_)
  refine wa_v1 (h := ?_)
  refine c_len (hz := by (first | (exact Nat.le_of_ble_eq_true rfl) | ((simp only [List.size_toArray, Array.size_push]); omega))) (h := ?_); try dsimp only
  refine e_int (h := ?_)
  refine lt_int ?_
  refine truthy_b (h := ?_)
  refine if_f (hc := (by kernel_rfl!)) (h := ?_)
  refine x_exprN (h := ?_)
  refine e_mcall (hk := mk_want_all _) (h := ?_)
  refine wa_v (h := ?_)
  refine wa_cons (h := ?_)
  refine Subscript_ ?_
  refine e_attr (hk := ak_term_sorts _) (h := ?_)
  refine Subscript_ ?_
  refine e_var (h := ?_)
  refine e_int (h := ?_)
  refine c_itemL (h := ?_)
  refine c_sort (h := ?_); intro _
  refine wa_cons (h := ?_)
  refine e_str (h := ?_)
  refine wa_nil (h := ?_)
  refine ⟨In.of (by with_reducible assumption) (by with_reducible assumption), ?_⟩
  (refine' Does.use' (want_all_does _ ?hDz10 ?hUz10 ?hAz10 ?hBz10 ?hlenz10 ?hsubz10 ?hlz10 ?hoz10 ?hiz10 ?hrz10) ?haz10 ?Bz10 ?Xz10 ?Tz10 ?Fz10 ?Nz10 ?hkz10 (Nat.le_refl _) (Nat.le_refl _) ?_; (case hAz10 => assumption); (case hBz10 => assumption); (case haz10 => exact rfl); (case hDz10 => omega); (case hUz10 => omega); (case hlenz10 => omega); (case Bz10 => assumption); (case Xz10 => assumption); (case Tz10 => assumption); (case Fz10 => assumption); (case Nz10 => assumption); (case hsubz10 => kst_all); (case hlz10 => k_mem); (case hoz10 => first | exact Or.inr rfl | exact Or.inl rfl); (case hiz10 => kst_p); (case hrz10 => intro x hx; simp only [List.mem_cons, List.not_mem_nil, or_false] at hx; omega); (case hkz10 => exact rfl)); rintro _ _ _ _ _ _ ⟨rfl, rfl⟩; k_sweep; (try refine ⟨rfl, ?_⟩)
  refine x_ret (h := ?_)
  refine e_mcall (hk := mk_make _) (h := ?_)
  refine wa_cons (h := ?_)
  refine e_str (h := ?_)
  refine wa_cons (h := ?_)
  walk1
  walk1
  walk1
  walk1
  refine e_var (h := ?_)
  walk1
  walk1
  refine wa_cons (h := ?_)
  refine e_globI (hk := (gk_BOOL _)) (h := ?_); intro _
  refine wa_cons (h := ?_)
  refine e_int (h := ?_)
  refine wa_nil (h := ?_)
  refine ⟨In.of (by with_reducible assumption) (by with_reducible assumption), ?_⟩
  (refine' make_call ?Bz11 ?Xz11 ?Tz11 ?Fz11 ?Nz11 ?hkz11 ?hdpz11 ?hunz11 ?hAz11 ?hBz11 ?wfz11 ?hlenz11 ?offz11 ?hiz11 ?l1z11 ?hnodez11 ?hxz11 ?_; (case hAz11 => assumption); (case hBz11 => assumption); (case hxz11 => exact rfl); (case Bz11 => assumption); (case Xz11 => assumption); (case Tz11 => assumption); (case Fz11 => assumption); (case Nz11 => assumption); (case hkz11 => exact rfl); (case hdpz11 => omega); (case hunz11 => omega); (case wfz11 => assumption); (case hlenz11 => omega); (case offz11 => assumption); (case hiz11 => kst_p); (case l1z11 => assumption); (case hnodez11 => kst_p1)); intro _ _ _ _ _ _ _
  all_goals (rename TermPost _ _ _ _ _ _ => hP'; exact hq _ _ (back (by assumption) (by assumption) rfl hP'))
/- Form3 -/
noncomputable def Grown (fd lst : Addr) (a : BA) (r0 r : Led) : Prop := ∃ tl, r = tl ++ r0 ∧ ∀ p ∈ tl, @LT.lt Nat _ fd p.1 ∧ @LT.lt Nat _ lst p.1 ∧ (∀ x ∈ a.adr, @LT.lt Nat _ x p.1) ∧ AllLt p.1 r0
theorem Grown.refl {fd lst : Addr} {a : BA} {r0 : Led} : Grown fd lst a r0 r0 := ⟨[], rfl, fun _ hp => nomatch hp⟩
theorem Grown.step {fd lst : Addr} {a : BA} {r0 r tl : Led} {o : Obj} {vs : List Value} {nc : Nat} {b : BS} (G : Grown fd lst a r0 r) (hf : Fresh tl (FLed fd lst o vs nc ++ (BL a b ++ r))) : Grown fd lst a r0 (tl ++ r) := by
  obtain ⟨t, rfl, h⟩ := G
  refine ⟨tl ++ t, by rw [List.append_assoc], fun p hp => ?_⟩
  rcases List.mem_append.mp hp with hp | hp
  · have hl := AllLt.mem (hf p hp)
    refine ⟨hl (fd, o) (by simp [FLed]), hl (lst, listOf vs.toArray nc) (by simp [FLed]), fun x hx => ?_, AllLt.of fun q hq => hl q (List.mem_append_right _ (List.mem_append_right _ (List.mem_append_right _ hq)))⟩
    obtain ⟨q, hq, rfl⟩ := adr_BL (b := b) x hx
    exact hl q (List.mem_append_right _ (List.mem_append_left _ hq))
  · exact h p hp
theorem Grown.fresh {fd lst : Addr} {a : BA} {r0 r : Led} {o : Obj} {vs : List Value} {nc : Nat} {b : BS} (G : Grown fd lst a r0 r) : ∃ tl, r = tl ++ r0 ∧ Fresh tl (FLed fd lst o vs nc ++ (BL a b ++ r0)) := by
  obtain ⟨t, rfl, h⟩ := G
  refine ⟨t, rfl, fun p hp => AllLt.of fun q hq => ?_⟩
  obtain ⟨h1, h2, h3, h4⟩ := h p hp
  rcases List.mem_append.mp hq with hq | hq
  · simp only [FLed, List.mem_cons, List.not_mem_nil, or_false] at hq
    rcases hq with rfl | rfl
    · exact h1
    · exact h2
  · rcases List.mem_append.mp hq with hq | hq
    · exact h3 _ (BL_adr q hq)
    · exact AllLt.mem h4 q hq
/-- feed, bank, what has grown -/
structure FG (w : World) (a : BA) (fd lst : Addr) (o : Obj) (vs : List Value) (k : Int) (b : BS) (r0 rest : Led) : Prop where
  S : FS w a fd lst o vs k b rest
  G : Grown fd lst a r0 rest
theorem fpost {w : World} {a : BA} {fd lst : Addr} {o o' : Obj} {vs : List Value} {nc : Nat} {k k' : Int} {b b' : BS} {rest r : Led} {c m n : Nat} {t : Tok} (H : FG w a fd lst o' vs k' b' rest r) (h1 : k ≤ k') (h2 : k' ≤ k + c) (h3 : b.T.length ≤ b'.T.length) (h4 : b'.T.length ≤ b.T.length + m) (h5 : Tn b'.T n) :
    FPost w a fd lst o vs nc k b rest c m (.int n t) (FLed fd lst o' vs nc ++ (BL a b' ++ r)) := by
  obtain ⟨S, G⟩ := H
  obtain ⟨tl, rfl, hf⟩ := Grown.fresh (o := o) (vs := vs) (nc := nc) (b := b) G
  exact ⟨n, t, o', k', b', tl, rfl, rfl, S, h1, h2, h3, h4, h5, hf⟩
section
variable {w : World} {dp : Nat} {un : Nat} {gd : Option (List Code)} {outer : List Env} {A₀ : Around} {base : Heap} {mean : ExcName → Option Value} {mg : Str → Option Value} {mb : Str → Option Value} {g : Heap} {L : Addr} {a : BA} {cn : Str} {cs : Scope} {ccd : Value} {cl : List (Str × Addr)} {E : Value → Shared → Prop} {gs : Array GenState} {dr : Drawn} {os : OsState} {a' : Addr} {m : Str → Option Value} {hp : Heap} {tk : Nat} {Q : Value → Shared → Prop} {fd : Addr} {lst : Addr} {o : Obj} {vs : List Value} {nc : Nat} {k : Int} {b : BS} {r0 : Led} {rest : Led}
theorem next_callG {wide : Int} {tw : Tok} (B : Below A₀ base outer g) (X : (heapK w.params).In g) (T : Top viewK (looseW viewK [Str.ofString "MOST_BITS"]) mean mg mb g) (F : Fr g L hp m) (S : FG w a fd lst o vs k b r0 rest) (N : News g L hp (FLed fd lst o vs nc ++ (BL a b ++ rest))) (hk : cs.kind = .function) (hdp : dp < 500) (hun : un < 1000) (hk1 : k < 1000) (hw : 0 < wide ∧ wide ≤ 11)
    (h : ∀ r tr o' h' tk', 0 ≤ r → r < wide → Fr g L h' m → FG w a fd lst o' vs (k + 1) b r0 rest → News g L h' (FLed fd lst o' vs nc ++ (BL a b ++ rest)) → Q (.int r tr) ⟨h', gs, dr, tk', os⟩) :
    wpAny (model PRG w) (ktrTop dp un gd cn cs L a' ccd cl outer) (call (.ref 921) [.ref fd, .int wide tw]) Q E ⟨hp, gs, dr, tk, os⟩ :=
  next_call B X T F S.S N hk hdp hun hk1 hw fun r tr o' h' tk' h0 h1 F' S' N' => h r tr o' h' tk' h0 h1 F' ⟨S', S.G⟩ N'
theorem op_callG {f : Addr} {args args' : List Value} {D U : Nat} (d : Does w f args' D U (BL a b ++ (FLed fd lst o vs nc ++ rest)) (TermPost w a b (FLed fd lst o vs nc ++ rest))) (ha : args' = args) (B : Below A₀ base outer g) (X : (heapK w.params).In g) (T : Top viewK (looseW viewK [Str.ofString "MOST_BITS"]) mean mg mb g) (F : Fr g L hp m) (S : FG w a fd lst o vs k b r0 rest) (N : News g L hp (FLed fd lst o vs nc ++ (BL a b ++ rest))) (hk : cs.kind = .function) (hdp : dp ≤ D) (hun : un ≤ U)
    (h : ∀ n t b' r h' tk', Fr g L h' m → FG w a fd lst o vs k b' r0 r → News g L h' (FLed fd lst o vs nc ++ (BL a b' ++ r)) → b.T.length ≤ b'.T.length → b'.T.length ≤ b.T.length + 1 → Tn b'.T n → (∀ p ∈ rest, p ∈ r) → Q (.int (n : Nat) t) ⟨h', gs, dr, tk', os⟩) :
    wpAny (model PRG w) (ktrTop dp un gd cn cs L a' ccd cl outer) (call (.ref f) args) Q E ⟨hp, gs, dr, tk, os⟩ :=
  op_call d ha B X T F S.S N hk hdp hun fun n t b' tl h' tk' F' S' N' e1 e2 e3 e4 => h n t b' _ h' tk' F' ⟨S', S.G.step e4⟩ N' e1 e2 e3 fun _ hp => List.mem_append_right _ hp
theorem form_callG {d : Nat} {lv : Addr} {l0 l1 l2 : Nat} {t0 t1 t2 td : Tok} {x : Int} {nl : Nat} (IH : FormOk w d) (B : Below A₀ base outer g) (X : (heapK w.params).In g) (T : Top viewK (looseW viewK [Str.ofString "MOST_BITS"]) mean mg mb g) (F : Fr g L hp m) (S : FG w a fd lst o vs k b r0 rest) (N : News g L hp (FLed fd lst o vs nc ++ (BL a b ++ rest))) (hk : cs.kind = .function)
    (hdp : dp + d < 480) (hun : un + 3 * d < 800) (hd3 : d ≤ 3) (hx : x = d) (hlv : (lv, listOf [Value.int l0 t0, .int l1 t1, .int l2 t2].toArray nl) ∈ rest) (h0 : 1 ≤ l0 ∧ l0 < 6) (h1 : 1 ≤ l1 ∧ l1 < 6) (h2 : 1 ≤ l2 ∧ l2 < 6) (hk1 : k + costC d < 1000) (hT : b.T.length + costM d ≤ 900)
    (h : ∀ n t o' k' b' r h' tk', Fr g L h' m → FG w a fd lst o' vs k' b' r0 r → News g L h' (FLed fd lst o' vs nc ++ (BL a b' ++ r)) → k ≤ k' → k' ≤ k + costC d → b.T.length ≤ b'.T.length → b'.T.length ≤ b.T.length + costM d → Tn b'.T n → (∀ p ∈ rest, p ∈ r) → Q (.int (n : Nat) t) ⟨h', gs, dr, tk', os⟩) :
    wpAny (model PRG w) (ktrTop dp un gd cn cs L a' ccd cl outer) (call (.ref 940) [.ref fd, .ref a.bk, .ref lv, .int x td]) Q E ⟨hp, gs, dr, tk, os⟩ :=
  form_call IH B X T F S.S N hk hdp hun hd3 hx hlv h0 h1 h2 hk1 hT fun n t o' k' b' tl h' tk' F' S' N' e1 e2 e3 e4 e5 e6 => h n t o' k' b' _ h' tk' F' ⟨S', S.G.step e6⟩ N' e1 e2 e3 e4 e5 fun _ hp => List.mem_append_right _ hp
theorem n_listG {us : List Value} (F : autoParam (Fr g L hp m) kA) (S : autoParam (FG w a fd lst o vs k b r0 rest) kA) (N : autoParam (News g L hp (FLed fd lst o vs nc ++ (BL a b ++ rest))) kA) (hz : autoParam (decide (us.length ≤ 1000) = true) kR)
    (h : ∀ D h', Fr g L h' m → FG w a fd lst o vs k b r0 ((D, listOf us.toArray 0) :: rest) → News g L h' (FLed fd lst o vs nc ++ (BL a b ++ ((D, listOf us.toArray 0) :: rest))) → Q (.ref D) ⟨h', gs, dr, tk, os⟩) : wpAny (model PRG w) (ktrTop dp un gd cn cs L a' ccd cl outer) (newList us) Q E ⟨hp, gs, dr, tk, os⟩ :=
  n_list F N hz fun D h' F' N' l1 => by
    have hf : Fresh [(D, listOf us.toArray 0)] (FLed fd lst o vs nc ++ (BL a b ++ rest)) := fun p hp => by rw [List.mem_singleton.mp hp]; exact l1
    refine h D h' F' ⟨FS.more S.S hf, S.G.step hf⟩ (N'.perm fun p hp => ?_)
    simp only [List.mem_append, List.mem_cons] at hp ⊢
    rcases hp with hp | hp | hp | hp
    · exact .inr (.inl hp)
    · exact .inr (.inr (.inl hp))
    · exact .inl hp
    · exact .inr (.inr (.inr hp))
theorem s_sliceG {u0 u1 u2 : Value} {l : Addr} {nl : Nat} {x : Int} {t : Tok} {value slice : PySem.Expr} (F : Fr g L hp m) (S : FG w a fd lst o vs k b r0 rest) (N : News g L hp (FLed fd lst o vs nc ++ (BL a b ++ rest))) (hl : (l, listOf [u0, u1, u2].toArray nl) ∈ FLed fd lst o vs nc ++ (BL a b ++ rest)) (h0 : 0 ≤ x) (h1 : x < 2)
    (hA : ∀ D h', Fr g L h' m → FG w a fd lst o vs k b r0 ((D, listOf [u0, u1, u2].toArray 0) :: rest) → News g L h' (FLed fd lst o vs nc ++ (BL a b ++ ((D, listOf [u0, u1, u2].toArray 0) :: rest))) → Q (.ref D) ⟨h', gs, dr, tk, os⟩)
    (hB : ∀ D h', Fr g L h' m → FG w a fd lst o vs k b r0 ((D, listOf [u1, u2].toArray 0) :: rest) → News g L h' (FLed fd lst o vs nc ++ (BL a b ++ ((D, listOf [u1, u2].toArray 0) :: rest))) → Q (.ref D) ⟨h', gs, dr, tk, os⟩)
    (hs : subscripted slice false (.ref l) (.ref hp.objs.size) = operate [.ref hp.objs.size, .ref l] (getItem (.ref l) (.ref hp.objs.size))) :
    wpAny (model PRG w) (ktrTop dp un gd cn cs L a' ccd cl outer) (subscriptTail value slice (.ref l) (.ref hp.objs.size)) Q E ⟨hp.push { cls := .type "slice", data := .fields #[.int x t, .none, .none] }, gs, dr, tk, os⟩ := by
  have key : ∀ (zs : List Value) (h' : Heap), News g L h' ((hp.objs.size + 1, listOf zs.toArray 0) :: (FLed fd lst o vs nc ++ (BL a b ++ rest))) → FG w a fd lst o vs k b r0 ((hp.objs.size + 1, listOf zs.toArray 0) :: rest) ∧ News g L h' (FLed fd lst o vs nc ++ (BL a b ++ ((hp.objs.size + 1, listOf zs.toArray 0) :: rest))) := by
    intro zs h' N'
    have l1 : AllLt (hp.objs.size + 1) (FLed fd lst o vs nc ++ (BL a b ++ rest)) := AllLt.of fun q hq => Nat.lt_succ_of_lt (Heap.lt_size (N q hq).1)
    have hf : Fresh [(hp.objs.size + 1, listOf zs.toArray 0)] (FLed fd lst o vs nc ++ (BL a b ++ rest)) := fun p hp => by rw [List.mem_singleton.mp hp]; exact l1
    refine ⟨⟨FS.more S.S hf, S.G.step hf⟩, N'.perm fun p hp => ?_⟩
    simp only [List.mem_append, List.mem_cons] at hp ⊢
    rcases hp with hp | hp | hp | hp
    · exact .inr (.inl hp)
    · exact .inr (.inr (.inl hp))
    · exact .inl hp
    · exact .inr (.inr (.inr hp))
  have hl0 : hp.IsList l #[u0, u1, u2] := ⟨_, (N _ hl).1, rfl, nl, rfl⟩
  refine tail_any (s := ⟨hp.push { cls := .type "slice", data := .fields #[.int x t, .none, .none] }, gs, dr, tk, os⟩) (Heap.IsList.typeIs (s := ⟨hp.push { cls := .type "slice", data := .fields #[.int x t, .none, .none] }, gs, dr, tk, os⟩) (hl0.push _)) slot_list_getitem.lookup
    (wpAny_getItem_list_slice (hl0.push _) (Heap.IsSliceOf.new ..) (IsPart.int x t) IsPart.none .none (by simp) ?_ (by show 3 ≤ sizeLine; rw [sizeLine_eq]; omega)) hs
  have F' : Fr g L ((hp.push { cls := .type "slice", data := .fields #[.int x t, .none, .none] }).push { cls := .type "list", data := .seq (slicePick #[u0, u1, u2] (some x) none none) }) m := (F.push _).push _
  have N' := News.push (F.push { cls := .type "slice", data := .fields #[.int x t, .none, .none] }) (N.grown fun _ _ e => Heap.get?_push_of_some _ e) { cls := .type "list", data := .seq (slicePick #[u0, u1, u2] (some x) none none) }
  rw [Heap.size_push] at N'
  show Q (.ref (hp.push _).objs.size) _
  rw [Heap.size_push]
  rcases (show x = 0 ∨ x = 1 by omega) with rfl | rfl
  · have e : slicePick #[u0, u1, u2] (some 0) none none = #[u0, u1, u2] := by kernel_rfl!
    dsimp only at F' N' ⊢
    rw [e] at N' F' ⊢
    exact hA _ _ F' (key _ _ N').1 (key _ _ N').2
  · have e : slicePick #[u0, u1, u2] (some 1) none none = #[u1, u2] := by kernel_rfl!
    dsimp only at F' N' ⊢
    rw [e] at N' F' ⊢
    exact hB _ _ F' (key _ _ N').1 (key _ _ N').2
end
/- Form4 -/
section
local macro_rules | `(tactic| k_mem) => `(tactic| first | exact List.mem_cons_self | (with_reducible assumption) | (with_reducible exact BL_bk) | (with_reducible exact BL_bd) | (refine List.mem_append_left _ ?_; first | (with_reducible exact BL_bk) | (with_reducible exact BL_bd)) | (refine List.mem_append_right _ ?_; k_mem) | (refine List.mem_cons_of_mem _ ?_; k_mem))
theorem Tn.lo {T : List Key} {n : Nat} (h : Tn T n) : 1 ≤ n := h.1
theorem Tn.hi {T : List Key} {n : Nat} (h : Tn T n) : n < T.length := h.2
section
variable {b M C y z u : Nat}
theorem fa1 (h : b + M + M + 1 ≤ 900) (h1 : y ≤ b + M) : y ≤ 999 := by omega
theorem fa2 (h : b + M + M + 1 ≤ 900) (h1 : y ≤ b + M) (h2 : z ≤ y + M) : z ≤ 999 := by omega
theorem fa3 (h : b + M + M + 1 ≤ 900) (h1 : y ≤ b + M) : y + M ≤ 900 := by omega
theorem fc1 (hC : C = 2 * M + 1) (h1 : y ≤ b + M) (h2 : z ≤ y + 1) : z ≤ b + C := by omega
theorem fc2 (hC : C = 2 * M + 1) (h1 : y ≤ b + M) (h2 : z ≤ y + M) (h3 : u ≤ z + 1) : u ≤ b + C := by omega
variable {k k1 k2 c : Int} {cc CC : Nat}
theorem ka1 (h : k + c + c + 4 < 1000) (h1 : k1 ≤ k + 1 + c) : k1 + c < 1000 := by omega
theorem ka2 (h : k + c + c + 4 < 1000) (h1 : k1 ≤ k + 1 + c) (h2 : k2 ≤ k1 + c) : k2 < 1000 := by omega
theorem ka3 (h : k + c + c + 4 < 1000) (h1 : k1 ≤ k + 1 + c) (h2 : k2 ≤ k1 + c) : k2 + 1 < 1000 := by omega
theorem ka4 (h : k + c + c + 4 < 1000) (h1 : k1 ≤ k + 1 + c) (h2 : k2 ≤ k1 + c) : k2 + 1 + 1 < 1000 := by omega
theorem kb0 (e : CC = 2 * cc + 4) : k + 1 ≤ k + (CC : Int) := by omega
theorem kb1 (e : CC = 2 * cc + 4) : k + 1 + 1 ≤ k + (CC : Int) := by omega
theorem kb2 (e : CC = 2 * cc + 4) (h1 : k1 ≤ k + 1 + (cc : Int)) : k1 ≤ k + (CC : Int) := by omega
theorem kb3 (e : CC = 2 * cc + 4) (h1 : k1 ≤ k + 1 + (cc : Int)) (h2 : k2 ≤ k1 + (cc : Int)) : k2 ≤ k + (CC : Int) := by omega
theorem kb4 (e : CC = 2 * cc + 4) (h1 : k1 ≤ k + 1 + (cc : Int)) (h2 : k2 ≤ k1 + (cc : Int)) : k2 + 1 ≤ k + (CC : Int) := by omega
theorem kb5 (e : CC = 2 * cc + 4) (h1 : k1 ≤ k + 1 + (cc : Int)) (h2 : k2 ≤ k1 + (cc : Int)) : k2 + 1 + 1 ≤ k + (CC : Int) := by omega
theorem kb6 (e : CC = 2 * cc + 4) (h1 : k1 ≤ k + 1 + (cc : Int)) (h2 : k2 ≤ k1 + (cc : Int)) : k2 + 1 + 1 + 1 ≤ k + (CC : Int) := by omega
theorem kl0 : k ≤ k + 1 := by omega
theorem kl1 : k ≤ k + 1 + 1 := by omega
theorem kl2 (h1 : k + 1 ≤ k1) : k ≤ k1 := by omega
theorem kl3 (h1 : k + 1 ≤ k1) (h2 : k1 ≤ k2) : k ≤ k2 := by omega
theorem kl4 (h1 : k + 1 ≤ k1) (h2 : k1 ≤ k2) : k ≤ k2 + 1 := by omega
theorem kl5 (h1 : k + 1 ≤ k1) (h2 : k1 ≤ k2) : k ≤ k2 + 1 + 1 := by omega
theorem kl6 (h1 : k + 1 ≤ k1) (h2 : k1 ≤ k2) : k ≤ k2 + 1 + 1 + 1 := by omega
end
/- bounds of the formula's walk: sizes grow, terms lie in the table, costs -/
local macro_rules | `(tactic| kat_tups) => `(tactic| first | (with_reducible assumption) | exact Nat.le_refl _ | (refine Nat.le_trans ?_ (by with_reducible assumption); kat_tups))
local macro_rules | `(tactic| tlg_ne) => `(tactic| first | (with_reducible assumption) | exact ⟨Tn.lo (by with_reducible assumption), Nat.lt_of_lt_of_le (Tn.hi (by with_reducible assumption)) (by kat_tups)⟩ | exact ⟨(by with_reducible assumption), Nat.lt_of_lt_of_le (by with_reducible assumption) (by kat_tups)⟩)
local macro_rules | `(tactic| kct_strs) => `(tactic| first
  | ((with_reducible show @LE.le Nat _ _ 999); first | exact fa1 (by with_reducible assumption) (by with_reducible assumption) | exact fa2 (by with_reducible assumption) (by with_reducible assumption) (by with_reducible assumption))
  | ((with_reducible show @LE.le Nat _ _ 900); exact fa3 (by with_reducible assumption) (by with_reducible assumption))
  | ((with_reducible show @LT.lt Int _ _ 1000); first | exact ka1 (by with_reducible assumption) (by with_reducible assumption) | exact ka2 (by with_reducible assumption) (by with_reducible assumption) (by with_reducible assumption) | exact ka3 (by with_reducible assumption) (by with_reducible assumption) (by with_reducible assumption) | exact ka4 (by with_reducible assumption) (by with_reducible assumption) (by with_reducible assumption))
  | ((with_reducible show @LE.le Int _ _ _); first | exact kl0 | exact kl1 | exact kl2 (by with_reducible assumption) | exact kl3 (by with_reducible assumption) (by with_reducible assumption) | exact kl4 (by with_reducible assumption) (by with_reducible assumption) | exact kl5 (by with_reducible assumption) (by with_reducible assumption) | exact kl6 (by with_reducible assumption) (by with_reducible assumption) | exact kb0 (by with_reducible assumption) | exact kb1 (by with_reducible assumption) | exact kb2 (by with_reducible assumption) (by with_reducible assumption) | exact kb3 (by with_reducible assumption) (by with_reducible assumption) (by with_reducible assumption) | exact kb4 (by with_reducible assumption) (by with_reducible assumption) (by with_reducible assumption) | exact kb5 (by with_reducible assumption) (by with_reducible assumption) (by with_reducible assumption) | exact kb6 (by with_reducible assumption) (by with_reducible assumption) (by with_reducible assumption))
  | ((with_reducible show @LE.le Nat _ (List.length _) (List.length _)); kat_tups)
  | ((with_reducible show @LE.le Nat _ (List.length _) (_ + costM _)); first | exact Nat.le_add_right _ _ | exact fc1 (by with_reducible assumption) (by with_reducible assumption) (by with_reducible assumption) | exact fc2 (by with_reducible assumption) (by with_reducible assumption) (by with_reducible assumption) (by with_reducible assumption)))
set_option maxHeartbeats 16000000 in
theorem form_step (w : World) (d : Nat) (IH : FormOk w d) : FormOk w (d + 1) := by
  intro D U a fd lst o vs nc k b rest lv l0 l1 l2 t0 t1 t2 td x nl hD hU hd3 hx S0 hlv h0 h1 h2 hk1 hT
  refine' does_intro' (names := [Str.ofString "feed", Str.ofString "bank", Str.ofString "leaves", Str.ofString "deep", Str.ofString "way", Str.ofString "one", Str.ofString "other", Str.ofString "last"]) (k := 4) (vals := [some (.ref fd), some (.ref a.bk), some (.ref lv), some (.int x td), none, none, none, none]) ?hvals ?ho ?hcd ?hD ?hbind ?hall ?hnd ?hco ?hgen ?hk ?hcell ?body
  tb_start
  intro K A0 base mean mg mb g L h gs dr os tk0 Q lv B X T F N lt hdp hun hq
  show wpAny _ _ (execs (_ :: _) _) _ _ _
  have v0 := lv 0 (Str.ofString "feed") rfl
  have v1 := lv 1 (Str.ofString "bank") rfl
  have v2 := lv 2 (Str.ofString "leaves") rfl
  have v3 := lv 3 (Str.ofString "deep") rfl
  have v4 := lv 4 (Str.ofString "way") rfl
  have v5 := lv 5 (Str.ofString "one") rfl
  have v6 := lv 6 (Str.ofString "other") rfl
  have v7 := lv 7 (Str.ofString "last") rfl
  clear lv
  have S : FG w a fd lst o vs k b rest rest := ⟨S0, Grown.refl⟩
  have hno := S0.ok.no
  have hl6 := S0.wf.len
  have hc : costC (d + 1) = 2 * costC d + 4 := rfl
  have hm : costM (d + 1) = 2 * costM d + 1 := rfl
  have hd1 : K.dp < 480 := by omega
  have hu1 : K.un < 800 := by omega
  have hd2 : K.dp + d < 480 := by omega
  have hu2 : K.un + 3 * d < 800 := by omega
  have hd4 : d ≤ 3 := by omega
  have hx1 : x - 1 = (d : Int) := by omega
  have hT1 : b.T.length + costM d + costM d + 1 ≤ 900 := by omega
  have hT2 : b.T.length + costM d ≤ 900 := by omega
  have hK1 : k + (costC d : Int) + (costC d : Int) + 4 < 1000 := by omega
  have hK2 : k < 1000 := by omega
  have hK3 : k + 1 < 1000 := by omega
  have hK4 : k + 1 + (costC d : Int) < 1000 := by omega
  have q_bool_term : getL (Str.ofString "bool_term") a.es = some none := hno "bool_term" (by decide)
  have q_not_of : getL (Str.ofString "not_of") a.es = some none := hno "not_of" (by decide)
  have q_xor_of : getL (Str.ofString "xor_of") a.es = some none := hno "xor_of" (by decide)
  have q_implies_of : getL (Str.ofString "implies_of") a.es = some none := hno "implies_of" (by decide)
  have q_eq : getL (Str.ofString "eq") a.es = some none := hno "eq" (by decide)
  have q_ite : getL (Str.ofString "ite") a.es = some none := hno "ite" (by decide)
  have q_distinct : getL (Str.ofString "distinct") a.es = some none := hno "distinct" (by decide)
  have q_and_of : getL (Str.ofString "and_of") a.es = some none := hno "and_of" (by decide)
  have q_or_of : getL (Str.ofString "or_of") a.es = some none := hno "or_of" (by decide)
  clear hno S0
  refine x_asg (h := ?_)
  refine IfExp_ ?_
  refine t_cmp (h := ?_)
  refine e_var (h := ?_)
  refine e_int (h := ?_)
  refine gt_int ?_
  refine truthy_b (h := ?_)
  refine if_t (hc := (by kst_p2)) (h := ?_)
  refine e_gcall (hk := fk_law_next _) (h := ?_)
  refine wa_v (h := ?_)
  refine wa_cons (h := ?_)
  refine e_int (h := ?_)
  refine wa_nil (h := ?_)
  refine ⟨In.of (by with_reducible assumption) (by with_reducible assumption), ?_⟩
  (refine' next_callG ?Bz22 ?Xz22 ?Tz22 ?Fz22 ?Sz22 ?Nz22 ?hkz22 ?hdpz22 ?hunz22 ?hk1z22 ?hwz22 ?_; (case Nz22 => assumption); (case Sz22 => assumption); (case hdpz22 => omega); (case hunz22 => omega); (case hk1z22 => omega); (case hwz22 => decide); (case Bz22 => assumption); (case Xz22 => assumption); (case Tz22 => assumption); (case Fz22 => assumption); (case hkz22 => exact rfl)); intro _ _ _ _ _ _ _ _ _ _; k_sweep
  refine s_var (h := ?_); walk_at "p9"
  refine x_if (h := ?_)
  refine t_cmp (h := ?_)
  refine e_var (h := ?_)
  refine e_int (h := ?_)
  refine lt_int ?_
  refine truthy_b (h := ?_)
  walk_at "pif"
  focus
    refine x_ret (h := ?_)
    refine Subscript_ ?_
    refine e_var (h := ?_)
    refine e_var (h := ?_)
    refine c_leaf (h := ?_); intro _ _ _ _
  rotate_left
  focus
    refine x_ifi (h := ?_)
    walk_at "pif"
    focus
      refine x_ret (h := ?_)
      refine e_mcall (hk := mk_bool_term _) (h := ?_)
      refine wa_cons (h := ?_)
      refine e_cmp (h := ?_)
      refine e_gcall (hk := fk_law_next _) (h := ?_)
      refine wa_v (h := ?_)
      refine wa_cons (h := ?_)
      refine e_int (h := ?_)
      refine wa_nil (h := ?_)
      refine ⟨In.of (by with_reducible assumption) (by with_reducible assumption), ?_⟩
      (refine' next_callG ?Bz23 ?Xz23 ?Tz23 ?Fz23 ?Sz23 ?Nz23 ?hkz23 ?hdpz23 ?hunz23 ?hk1z23 ?hwz23 ?_; (case Nz23 => assumption); (case Sz23 => assumption); (case hdpz23 => omega); (case hunz23 => omega); (case hk1z23 => omega); (case hwz23 => decide); (case Bz23 => assumption); (case Xz23 => assumption); (case Tz23 => assumption); (case Fz23 => assumption); (case hkz23 => exact rfl)); intro _ _ _ _ _ _ _ _ _ _; k_sweep
      refine e_int (h := ?_)
      refine eq_int ?_
      refine wa_nil (h := ?_)
      refine ⟨In.of (by with_reducible assumption) (by with_reducible assumption), ?_⟩
      (refine' Does.use' (bool_does _ (news := FLed _ _ _ _ _ ++ (BL _ _ ++ _)) ?hDz24 ?hUz24 (FS.ok (FG.S ?Sz24)) (FS.wf (FG.S ?Sz24)) (fun p hp => List.mem_append_right _ hp)) ?haz24 ?Bz24 ?Xz24 ?Tz24 ?Fz24 ?Nz24 ?hkz24 (Nat.le_refl _) (Nat.le_refl _) ?_; (case Nz24 => assumption); (case Sz24 => assumption); (case haz24 => exact rfl); (case hDz24 => omega); (case hUz24 => omega); (case Bz24 => assumption); (case Xz24 => assumption); (case Tz24 => assumption); (case Fz24 => assumption); (case hkz24 => exact rfl)); rintro _ _ _ _ _ _ ⟨⟨_, _, rfl, _⟩, rfl⟩; k_sweep
    rotate_left
    focus
      refine x_asg (h := ?_)
      refine e_gcall (hk := fk_law_formula _) (h := ?_)
      refine wa_v (h := ?_)
      refine wa_v (h := ?_)
      refine wa_v (h := ?_)
      refine wa_cons (h := ?_)
      refine wpAny_BinOp ?_
      refine e_var (h := ?_)
      refine e_int (h := ?_)
      refine o_sub (h := ?_)
      refine wa_nil (h := ?_)
      refine ⟨In.of (by with_reducible assumption) (by with_reducible assumption), ?_⟩
      (refine' form_callG ?IHz25 ?Bz25 ?Xz25 ?Tz25 ?Fz25 ?Sz25 ?Nz25 ?hkz25 ?hdpz25 ?hunz25 ?hd3z25 ?hxz25 ?hlvz25 ?h0z25 ?h1z25 ?h2z25 ?hk1z25 ?hTz25 ?_; (case IHz25 => assumption); (case Nz25 => assumption); (case Sz25 => assumption); (case hlvz25 => k_mem); (case h0z25 => assumption); (case h1z25 => assumption); (case h2z25 => assumption); (case hdpz25 => omega); (case hunz25 => omega); (case hd3z25 => omega); (case hxz25 => omega); (case hk1z25 => omega); (case hTz25 => omega); (case Bz25 => assumption); (case Xz25 => assumption); (case Tz25 => assumption); (case Fz25 => assumption); (case hkz25 => exact rfl)); intro _ _ _ _ _ _ _ _ _ _ _ _ _ _ _ _ e6'; have hlv' := e6' _ (by assumption); k_sweep
      refine s_var (h := ?_); walk_at "p9"
      refine x_ifi (h := ?_)
      walk_at "pif"
      focus
        refine x_ret (h := ?_)
        refine e_mcall1 (hk := mk_not_of _) (h := ?_)
        (refine' op_callG (not_does _ ?hDz26 ?hUz26 (FS.ok (FG.S ?Sz26)) (FS.bankB (FG.S ?Sz26)) (FS.wf (FG.S ?Sz26)) ?hlenz26 (FS.offB (FG.S ?Sz26)) ?h0z26) ?haz26 ?Bz26 ?Xz26 ?Tz26 ?Fz26 ?Sz26 ?Nz26 ?hkz26 (Nat.le_refl _) (Nat.le_refl _) ?_; (case Nz26 => assumption); (case Sz26 => assumption); (case haz26 => exact rfl); (case hDz26 => omega); (case hUz26 => omega); (case hlenz26 => omega); (case h0z26 => tlg_ne); (case Bz26 => assumption); (case Xz26 => assumption); (case Tz26 => assumption); (case Fz26 => assumption); (case hkz26 => exact rfl)); intro _ _ _ _ _ _ _ _ _ _ _ _ _; k_sweep
      rotate_left
      focus
        refine x_asg (h := ?_)
        refine e_gcall (hk := fk_law_formula _) (h := ?_)
        refine wa_v (h := ?_)
        refine wa_v (h := ?_)
        refine wa_v (h := ?_)
        refine wa_cons (h := ?_)
        refine wpAny_BinOp ?_
        refine e_var (h := ?_)
        refine e_int (h := ?_)
        refine o_sub (h := ?_)
        refine wa_nil (h := ?_)
        refine ⟨In.of (by with_reducible assumption) (by with_reducible assumption), ?_⟩
        (refine' form_callG ?IHz27 ?Bz27 ?Xz27 ?Tz27 ?Fz27 ?Sz27 ?Nz27 ?hkz27 ?hdpz27 ?hunz27 ?hd3z27 ?hxz27 ?hlvz27 ?h0z27 ?h1z27 ?h2z27 ?hk1z27 ?hTz27 ?_; (case IHz27 => assumption); (case Nz27 => assumption); (case Sz27 => assumption); (case hlvz27 => k_mem); (case h0z27 => assumption); (case h1z27 => assumption); (case h2z27 => assumption); (case hdpz27 => omega); (case hunz27 => omega); (case hd3z27 => omega); (case hxz27 => omega); (case hk1z27 => omega); (case hTz27 => omega); (case Bz27 => assumption); (case Xz27 => assumption); (case Tz27 => assumption); (case Fz27 => assumption); (case hkz27 => exact rfl)); intro _ _ _ _ _ _ _ _ _ _ _ _ _ _ _ _ e6'; have hlv' := e6' _ (by assumption); k_sweep
        refine s_var (h := ?_); walk_at "p9"
        refine x_ifi (h := ?_)
        walk_at "pif"
        focus
          refine x_ret (h := ?_)
          refine e_mcall (hk := mk_xor_of _) (h := ?_)
          refine wa_v (h := ?_)
          refine wa_v1 (h := ?_)
          refine ⟨In.of (by with_reducible assumption) (by with_reducible assumption), ?_⟩
          (refine' op_callG (xor_does _ ?hDz28 ?hUz28 (FS.ok (FG.S ?Sz28)) (FS.bankB (FG.S ?Sz28)) (FS.wf (FG.S ?Sz28)) ?hlenz28 (FS.offB (FG.S ?Sz28)) ?h0z28 ?h1z28) ?haz28 ?Bz28 ?Xz28 ?Tz28 ?Fz28 ?Sz28 ?Nz28 ?hkz28 (Nat.le_refl _) (Nat.le_refl _) ?_; (case Nz28 => assumption); (case Sz28 => assumption); (case haz28 => exact rfl); (case hDz28 => omega); (case hUz28 => omega); (case hlenz28 => omega); (case h0z28 => tlg_ne); (case h1z28 => tlg_ne); (case Bz28 => assumption); (case Xz28 => assumption); (case Tz28 => assumption); (case Fz28 => assumption); (case hkz28 => exact rfl)); intro _ _ _ _ _ _ _ _ _ _ _ _ _; k_sweep
        rotate_left
        focus
          refine x_ifi (h := ?_)
          walk_at "pif"
          focus
            refine x_ret (h := ?_)
            refine e_mcall (hk := mk_implies_of _) (h := ?_)
            refine wa_v (h := ?_)
            refine wa_v1 (h := ?_)
            refine ⟨In.of (by with_reducible assumption) (by with_reducible assumption), ?_⟩
            (refine' op_callG (imp_does _ ?hDz29 ?hUz29 (FS.ok (FG.S ?Sz29)) (FS.bankB (FG.S ?Sz29)) (FS.wf (FG.S ?Sz29)) ?hlenz29 (FS.offB (FG.S ?Sz29)) ?h0z29 ?h1z29) ?haz29 ?Bz29 ?Xz29 ?Tz29 ?Fz29 ?Sz29 ?Nz29 ?hkz29 (Nat.le_refl _) (Nat.le_refl _) ?_; (case Nz29 => assumption); (case Sz29 => assumption); (case haz29 => exact rfl); (case hDz29 => omega); (case hUz29 => omega); (case hlenz29 => omega); (case h0z29 => tlg_ne); (case h1z29 => tlg_ne); (case Bz29 => assumption); (case Xz29 => assumption); (case Tz29 => assumption); (case Fz29 => assumption); (case hkz29 => exact rfl)); intro _ _ _ _ _ _ _ _ _ _ _ _ _; k_sweep
          rotate_left
          focus
            refine x_ifi (h := ?_)
            walk_at "pif"
            focus
              refine x_ret (h := ?_)
              refine e_mcall (hk := mk_eq _) (h := ?_)
              refine wa_v (h := ?_)
              refine wa_v1 (h := ?_)
              refine ⟨In.of (by with_reducible assumption) (by with_reducible assumption), ?_⟩
              (refine' op_callG (eq_does _ ?hDz30 ?hUz30 (FS.ok (FG.S ?Sz30)) (FS.bankB (FG.S ?Sz30)) (FS.wf (FG.S ?Sz30)) ?hlenz30 (FS.offB (FG.S ?Sz30)) ?h0z30 ?h1z30) ?haz30 ?Bz30 ?Xz30 ?Tz30 ?Fz30 ?Sz30 ?Nz30 ?hkz30 (Nat.le_refl _) (Nat.le_refl _) ?_; (case Nz30 => assumption); (case Sz30 => assumption); (case haz30 => exact rfl); (case hDz30 => omega); (case hUz30 => omega); (case hlenz30 => omega); (case h0z30 => tlg_ne); (case h1z30 => tlg_ne); (case Bz30 => assumption); (case Xz30 => assumption); (case Tz30 => assumption); (case Fz30 => assumption); (case hkz30 => exact rfl)); intro _ _ _ _ _ _ _ _ _ _ _ _ _; k_sweep
            rotate_left
            focus
              refine x_asg (h := ?_)
              refine Subscript_ ?_
              refine e_var (h := ?_)
              refine e_gcall (hk := fk_law_next _) (h := ?_)
              refine wa_v (h := ?_)
              refine wa_cons (h := ?_)
              refine e_int (h := ?_)
              refine wa_nil (h := ?_)
              refine ⟨In.of (by with_reducible assumption) (by with_reducible assumption), ?_⟩
              (refine' next_callG ?Bz31 ?Xz31 ?Tz31 ?Fz31 ?Sz31 ?Nz31 ?hkz31 ?hdpz31 ?hunz31 ?hk1z31 ?hwz31 ?_; (case Nz31 => assumption); (case Sz31 => assumption); (case hdpz31 => omega); (case hunz31 => omega); (case hk1z31 => omega); (case hwz31 => decide); (case Bz31 => assumption); (case Xz31 => assumption); (case Tz31 => assumption); (case Fz31 => assumption); (case hkz31 => exact rfl)); intro _ _ _ _ _ _ _ _ _ _; k_sweep
              refine c_leaf (h := ?_); intro _ _ _ _
              refine s_var (h := ?_); walk_at "p9"
              refine x_ifi (h := ?_)
              walk_at "pif"
              focus
                refine x_ret (h := ?_)
                refine IfExp_ ?_
                refine t_cmp (h := ?_)
                refine e_gcall (hk := fk_law_next _) (h := ?_)
                refine wa_v (h := ?_)
                refine wa_cons (h := ?_)
                refine e_int (h := ?_)
                refine wa_nil (h := ?_)
                refine ⟨In.of (by with_reducible assumption) (by with_reducible assumption), ?_⟩
                (refine' next_callG ?Bz32 ?Xz32 ?Tz32 ?Fz32 ?Sz32 ?Nz32 ?hkz32 ?hdpz32 ?hunz32 ?hk1z32 ?hwz32 ?_; (case Nz32 => assumption); (case Sz32 => assumption); (case hdpz32 => omega); (case hunz32 => omega); (case hk1z32 => omega); (case hwz32 => decide); (case Bz32 => assumption); (case Xz32 => assumption); (case Tz32 => assumption); (case Fz32 => assumption); (case hkz32 => exact rfl)); intro _ _ _ _ _ _ _ _ _ _; k_sweep
                refine e_int (h := ?_)
                refine eq_int ?_
                refine truthy_b (h := ?_)
                walk_at "pif"
                focus
                  refine e_mcall (hk := mk_ite _) (h := ?_)
                  refine wa_v (h := ?_)
                  refine wa_v (h := ?_)
                  refine wa_v1 (h := ?_)
                  refine ⟨In.of (by with_reducible assumption) (by with_reducible assumption), ?_⟩
                  (refine' op_callG (ite_does _ ?hDz33 ?hUz33 (FS.ok (FG.S ?Sz33)) (FS.bankB (FG.S ?Sz33)) (FS.wf (FG.S ?Sz33)) ?hlenz33 (FS.offB (FG.S ?Sz33)) ?h0z33 ?h1z33 ?h2z33) ?haz33 ?Bz33 ?Xz33 ?Tz33 ?Fz33 ?Sz33 ?Nz33 ?hkz33 (Nat.le_refl _) (Nat.le_refl _) ?_; (case Nz33 => assumption); (case Sz33 => assumption); (case haz33 => exact rfl); (case hDz33 => omega); (case hUz33 => omega); (case hlenz33 => omega); (case h0z33 => tlg_ne); (case h1z33 => tlg_ne); (case h2z33 => tlg_ne); (case Bz33 => assumption); (case Xz33 => assumption); (case Tz33 => assumption); (case Fz33 => assumption); (case hkz33 => exact rfl)); intro _ _ _ _ _ _ _ _ _ _ _ _ _; k_sweep
                rotate_left
                focus
                  refine e_mcall (hk := mk_distinct _) (h := ?_)
                  refine wa_cons (h := ?_)
                  refine Subscript_ ?_
                  refine e_list (h := ?_)
                  refine wa_v (h := ?_)
                  refine wa_v (h := ?_)
                  refine wa_v1 (h := ?_)
                  refine n_listG (h := ?_); intro _ _ _ _ _; k_sweep
                  refine wpAny_Slice ?_
                  refine evalPart_some_step ?_
                  refine e_gcall (hk := fk_law_next _) (h := ?_)
                  refine wa_v (h := ?_)
                  refine wa_cons (h := ?_)
                  refine e_int (h := ?_)
                  refine wa_nil (h := ?_)
                  refine ⟨In.of (by with_reducible assumption) (by with_reducible assumption), ?_⟩
                  (refine' next_callG ?Bz34 ?Xz34 ?Tz34 ?Fz34 ?Sz34 ?Nz34 ?hkz34 ?hdpz34 ?hunz34 ?hk1z34 ?hwz34 ?_; (case Nz34 => assumption); (case Sz34 => assumption); (case hdpz34 => omega); (case hunz34 => omega); (case hk1z34 => omega); (case hwz34 => decide); (case Bz34 => assumption); (case Xz34 => assumption); (case Tz34 => assumption); (case Fz34 => assumption); (case hkz34 => exact rfl)); intro _ _ _ _ _ _ _ _ _ _; k_sweep
                  refine evalPart_none_step ?_
                  refine evalPart_none_step ?_
                  (refine' s_sliceG ?Fsl ?Ssl ?Nsl ?lsl ?isl ?jsl ?_ ?_ ?ssl; (case Nsl => with_reducible assumption); (case Fsl => with_reducible assumption); (case Ssl => with_reducible assumption); (case lsl => k_mem); (case isl => omega); (case jsl => omega); (case ssl => with_unfolding_all rfl)) <;> (intro _ _ _ _ _; k_sweep)
                  focus
                    refine wa_nil (h := ?_)
                    refine ⟨In.of (by with_reducible assumption) (by with_reducible assumption), ?_⟩
                    (refine' op_callG (dis3_does _ ?hDz35 ?hUz35 (FS.ok (FG.S ?Sz35)) (FS.bankB (FG.S ?Sz35)) (FS.wf (FG.S ?Sz35)) ?hlenz35 (FS.offB (FG.S ?Sz35)) ?hlsz35 ?h0z35 ?h1z35 ?h2z35) ?haz35 ?Bz35 ?Xz35 ?Tz35 ?Fz35 ?Sz35 ?Nz35 ?hkz35 (Nat.le_refl _) (Nat.le_refl _) ?_; (case Nz35 => assumption); (case Sz35 => assumption); (case haz35 => exact rfl); (case hlsz35 => k_mem); (case hDz35 => omega); (case hUz35 => omega); (case hlenz35 => omega); (case h0z35 => tlg_ne); (case h1z35 => tlg_ne); (case h2z35 => tlg_ne); (case Bz35 => assumption); (case Xz35 => assumption); (case Tz35 => assumption); (case Fz35 => assumption); (case hkz35 => exact rfl)); intro _ _ _ _ _ _ _ _ _ _ _ _ _; k_sweep
                  rotate_left
                  focus
                    refine wa_nil (h := ?_)
                    refine ⟨In.of (by with_reducible assumption) (by with_reducible assumption), ?_⟩
                    (refine' op_callG (dis2_does _ ?hDz36 ?hUz36 (FS.ok (FG.S ?Sz36)) (FS.bankB (FG.S ?Sz36)) (FS.wf (FG.S ?Sz36)) ?hlenz36 (FS.offB (FG.S ?Sz36)) ?hlsz36 ?h0z36 ?h1z36) ?haz36 ?Bz36 ?Xz36 ?Tz36 ?Fz36 ?Sz36 ?Nz36 ?hkz36 (Nat.le_refl _) (Nat.le_refl _) ?_; (case Nz36 => assumption); (case Sz36 => assumption); (case haz36 => exact rfl); (case hlsz36 => k_mem); (case hDz36 => omega); (case hUz36 => omega); (case hlenz36 => omega); (case h0z36 => tlg_ne); (case h1z36 => tlg_ne); (case Bz36 => assumption); (case Xz36 => assumption); (case Tz36 => assumption); (case Fz36 => assumption); (case hkz36 => exact rfl)); intro _ _ _ _ _ _ _ _ _ _ _ _ _; k_sweep
                  rotate_left
                rotate_left 2
              rotate_left 3
              focus
                refine x_ret (h := ?_)
                refine IfExp_ ?_
                refine t_cmp (h := ?_)
                refine e_var (h := ?_)
                refine e_int (h := ?_)
                refine eq_int ?_
                refine truthy_b (h := ?_)
                walk_at "pif"
                focus
                  refine e_mcall (hk := mk_and_of _) (h := ?_)
                  refine wa_cons (h := ?_)
                  refine e_list (h := ?_)
                  refine wa_v (h := ?_)
                  refine wa_v (h := ?_)
                  refine wa_v1 (h := ?_)
                  refine n_listG (h := ?_); intro _ _ _ _ _; k_sweep
                  refine wa_nil (h := ?_)
                  refine ⟨In.of (by with_reducible assumption) (by with_reducible assumption), ?_⟩
                  (refine' op_callG (and_does _ ?hDz37 ?hUz37 (FS.ok (FG.S ?Sz37)) (FS.bankB (FG.S ?Sz37)) (FS.wf (FG.S ?Sz37)) ?hlenz37 (FS.offB (FG.S ?Sz37)) ?hlsz37 ?h0z37 ?h1z37 ?h2z37) ?haz37 ?Bz37 ?Xz37 ?Tz37 ?Fz37 ?Sz37 ?Nz37 ?hkz37 (Nat.le_refl _) (Nat.le_refl _) ?_; (case Nz37 => assumption); (case Sz37 => assumption); (case haz37 => exact rfl); (case hlsz37 => k_mem); (case hDz37 => omega); (case hUz37 => omega); (case hlenz37 => omega); (case h0z37 => tlg_ne); (case h1z37 => tlg_ne); (case h2z37 => tlg_ne); (case Bz37 => assumption); (case Xz37 => assumption); (case Tz37 => assumption); (case Fz37 => assumption); (case hkz37 => exact rfl)); intro _ _ _ _ _ _ _ _ _ _ _ _ _; k_sweep
                rotate_left
                focus
                  refine e_mcall (hk := mk_or_of _) (h := ?_)
                  refine wa_cons (h := ?_)
                  refine e_list (h := ?_)
                  refine wa_v (h := ?_)
                  refine wa_v (h := ?_)
                  refine wa_v1 (h := ?_)
                  refine n_listG (h := ?_); intro _ _ _ _ _; k_sweep
                  refine wa_nil (h := ?_)
                  refine ⟨In.of (by with_reducible assumption) (by with_reducible assumption), ?_⟩
                  (refine' op_callG (or_does _ ?hDz38 ?hUz38 (FS.ok (FG.S ?Sz38)) (FS.bankB (FG.S ?Sz38)) (FS.wf (FG.S ?Sz38)) ?hlenz38 (FS.offB (FG.S ?Sz38)) ?hlsz38 ?h0z38 ?h1z38 ?h2z38) ?haz38 ?Bz38 ?Xz38 ?Tz38 ?Fz38 ?Sz38 ?Nz38 ?hkz38 (Nat.le_refl _) (Nat.le_refl _) ?_; (case Nz38 => assumption); (case Sz38 => assumption); (case haz38 => exact rfl); (case hlsz38 => k_mem); (case hDz38 => omega); (case hUz38 => omega); (case hlenz38 => omega); (case h0z38 => tlg_ne); (case h1z38 => tlg_ne); (case h2z38 => tlg_ne); (case Bz38 => assumption); (case Xz38 => assumption); (case Tz38 => assumption); (case Fz38 => assumption); (case hkz38 => exact rfl)); intro _ _ _ _ _ _ _ _ _ _ _ _ _; k_sweep
                rotate_left
              rotate_left 2
            rotate_left 5
          rotate_left 6
        rotate_left 7
      rotate_left 8
    rotate_left 9
  rotate_left 10
  all_goals first
    | (exact hq _ _ (back (by assumption) (by assumption) rfl (fpost (by assumption) (by omega) (by omega) (by omega) (by omega) (by tlg_ne))))
    | fail "an end"
set_option maxHeartbeats 16000000 in
theorem form_zero (w : World) : FormOk w 0 := by
  intro D U a fd lst o vs nc k b rest lv l0 l1 l2 t0 t1 t2 td x nl hD hU hd3 hx S0 hlv h0 h1 h2 hk1 hT
  refine' does_intro' (names := [Str.ofString "feed", Str.ofString "bank", Str.ofString "leaves", Str.ofString "deep", Str.ofString "way", Str.ofString "one", Str.ofString "other", Str.ofString "last"]) (k := 4) (vals := [some (.ref fd), some (.ref a.bk), some (.ref lv), some (.int x td), none, none, none, none]) ?hvals ?ho ?hcd ?hD ?hbind ?hall ?hnd ?hco ?hgen ?hk ?hcell ?body
  tb_start
  intro K A0 base mean mg mb g L h gs dr os tk0 Q lv B X T F N lt hdp hun hq
  show wpAny _ _ (execs (_ :: _) _) _ _ _
  have v0 := lv 0 (Str.ofString "feed") rfl
  have v1 := lv 1 (Str.ofString "bank") rfl
  have v2 := lv 2 (Str.ofString "leaves") rfl
  have v3 := lv 3 (Str.ofString "deep") rfl
  have v4 := lv 4 (Str.ofString "way") rfl
  have v5 := lv 5 (Str.ofString "one") rfl
  have v6 := lv 6 (Str.ofString "other") rfl
  have v7 := lv 7 (Str.ofString "last") rfl
  clear lv
  have S : FG w a fd lst o vs k b rest rest := ⟨S0, Grown.refl⟩
  have hno := S0.ok.no
  have hl6 := S0.wf.len
  have hc : costC 0 = 2 := rfl
  have hm : costM 0 = 0 := rfl
  have hd1 : K.dp < 481 := by omega
  have hu1 : K.un < 803 := by omega
  have hK2 : k < 1000 := by omega
  have hK3 : k + 1 < 1000 := by omega
  have q_bool_term : getL (Str.ofString "bool_term") a.es = some none := hno "bool_term" (by decide)
  clear hno S0
  refine x_asg (h := ?_)
  refine IfExp_ ?_
  refine t_cmp (h := ?_)
  refine e_var (h := ?_)
  refine e_int (h := ?_)
  refine gt_int ?_
  refine truthy_b (h := ?_)
  refine if_f (hc := (by kst_p2)) (h := ?_)
  refine e_gcall (hk := fk_law_next _) (h := ?_)
  refine wa_v (h := ?_)
  refine wa_cons (h := ?_)
  refine e_int (h := ?_)
  refine wa_nil (h := ?_)
  refine ⟨In.of (by with_reducible assumption) (by with_reducible assumption), ?_⟩
  (refine' next_callG ?Bz39 ?Xz39 ?Tz39 ?Fz39 ?Sz39 ?Nz39 ?hkz39 ?hdpz39 ?hunz39 ?hk1z39 ?hwz39 ?_; (case Nz39 => assumption); (case Sz39 => assumption); (case hdpz39 => omega); (case hunz39 => omega); (case hk1z39 => omega); (case hwz39 => decide); (case Bz39 => assumption); (case Xz39 => assumption); (case Tz39 => assumption); (case Fz39 => assumption); (case hkz39 => exact rfl)); intro _ _ _ _ _ _ _ _ _ _; k_sweep
  refine s_var (h := ?_); walk_at "p9"
  refine x_if (h := ?_)
  refine t_cmp (h := ?_)
  refine e_var (h := ?_)
  refine e_int (h := ?_)
  refine lt_int ?_
  refine truthy_b (h := ?_)
  walk_at "pif"
  focus
    refine x_ret (h := ?_)
    refine Subscript_ ?_
    refine e_var (h := ?_)
    refine e_var (h := ?_)
    refine c_leaf (h := ?_); intro _ _ _ _
  rotate_left
  focus
    refine x_ifi (h := ?_)
    refine if_t (hc := (by kst_p2)) (h := ?_)
    refine x_ret (h := ?_)
    refine e_mcall (hk := mk_bool_term _) (h := ?_)
    refine wa_cons (h := ?_)
    refine e_cmp (h := ?_)
    refine e_gcall (hk := fk_law_next _) (h := ?_)
    refine wa_v (h := ?_)
    refine wa_cons (h := ?_)
    refine e_int (h := ?_)
    refine wa_nil (h := ?_)
    refine ⟨In.of (by with_reducible assumption) (by with_reducible assumption), ?_⟩
    (refine' next_callG ?Bz40 ?Xz40 ?Tz40 ?Fz40 ?Sz40 ?Nz40 ?hkz40 ?hdpz40 ?hunz40 ?hk1z40 ?hwz40 ?_; (case Nz40 => assumption); (case Sz40 => assumption); (case hdpz40 => omega); (case hunz40 => omega); (case hk1z40 => omega); (case hwz40 => decide); (case Bz40 => assumption); (case Xz40 => assumption); (case Tz40 => assumption); (case Fz40 => assumption); (case hkz40 => exact rfl)); intro _ _ _ _ _ _ _ _ _ _; k_sweep
    refine e_int (h := ?_)
    refine eq_int ?_
    refine wa_nil (h := ?_)
    refine ⟨In.of (by with_reducible assumption) (by with_reducible assumption), ?_⟩
    (refine' Does.use' (bool_does _ (news := FLed _ _ _ _ _ ++ (BL _ _ ++ _)) ?hDz41 ?hUz41 (FS.ok (FG.S ?Sz41)) (FS.wf (FG.S ?Sz41)) (fun p hp => List.mem_append_right _ hp)) ?haz41 ?Bz41 ?Xz41 ?Tz41 ?Fz41 ?Nz41 ?hkz41 (Nat.le_refl _) (Nat.le_refl _) ?_; (case Nz41 => assumption); (case Sz41 => assumption); (case haz41 => exact rfl); (case hDz41 => omega); (case hUz41 => omega); (case Bz41 => assumption); (case Xz41 => assumption); (case Tz41 => assumption); (case Fz41 => assumption); (case hkz41 => exact rfl)); rintro _ _ _ _ _ _ ⟨⟨_, _, rfl, _⟩, rfl⟩; k_sweep
  rotate_left
  all_goals first
    | (exact hq _ _ (back (by assumption) (by assumption) rfl (fpost (by assumption) (by omega) (by omega) (by omega) (by omega) (by tlg_ne))))
    | fail "an end"
theorem form_ok (w : World) : FormOk w 3 := form_step w 2 (form_step w 1 (form_step w 0 (form_zero w)))
end
/- Reads -/
set_option maxHeartbeats 8000000 in
theorem op_does (w : World) {D U : Nat} (hD : D < 700) (hU : U < 1500) {a : BA} {b : BS} {rest news : Led} {n : Nat} {tn : Tok} {k : Key}
  (hA : a.Ok) (hB : Bank w rest b) (hlen : b.T.length ≤ 1000) (hsub : ∀ p ∈ BL a b ++ rest, p ∈ news) (ht : b.T[n]? = some k) :
  Does w 354 [.ref a.bk, .int n tn] D U news (fun v news' => (∃ t, v = .str k.1 t) ∧ news' = news) := by
  refine' does_intro' (names := [Str.ofString "self", Str.ofString "t"]) (k := 0) (vals := [some (.ref a.bk), some (.int n tn)]) ?hvals ?ho ?hcd ?hD ?hbind ?hall ?hnd ?hco ?hgen ?hk ?hcell ?body
  tb_start
  intro K A0 base mean mg mb g L h gs dr os tk0 Q lv B X T F N lt hdp hun hq
  have hd1 := Nat.lt_of_le_of_lt hdp (Nat.add_lt_add_right hD 1)
  have hu1 := Nat.lt_of_le_of_lt hun (Nat.add_lt_add_right hU 3)
  show wpAny _ _ (execs (_ :: _) _) _ _ _
  have v0 := lv 0 (Str.ofString "self") rfl
  have v1 := lv 1 (Str.ofString "t") rfl
  clear lv
  obtain ⟨bk, bd, sw, fr, to, ta, ts, td, nm, es, nE, swO, frO⟩ := a
  obtain ⟨c1, c2, c3, c4, c5, c6, c7, c8, lo, htn, hfn, g1, g2, g3, g4, g5, g6, g7, hno⟩ := hA
  dsimp only [BL, BA.adr, List.cons_append, List.nil_append] at *
  have m1 := hsub _ (.head _)
  have m2 := hsub _ (.tail _ (.head _))
  have m3 := hsub _ (.tail _ (.tail _ (.head _)))
  have m4 := hsub _ (.tail _ (.tail _ (.tail _ (.head _))))
  have m5 := hsub _ (.tail _ (.tail _ (.tail _ (.tail _ (.head _)))))
  have m6 := hsub _ (.tail _ (.tail _ (.tail _ (.tail _ (.tail _ (.head _))))))
  have m7 := hsub _ (.tail _ (.tail _ (.tail _ (.tail _ (.tail _ (.tail _ (.head _)))))))
  have m8 := hsub _ (.tail _ (.tail _ (.tail _ (.tail _ (.tail _ (.tail _ (.tail _ (.head _))))))))
  have hsr : ∀ p ∈ rest, p ∈ news := fun p hp => hsub p (.tail _ (.tail _ (.tail _ (.tail _ (.tail _ (.tail _ (.tail _ (.tail _ (.tail _ hp)))))))))
  have hn : n < b.T.length := (List.getElem?_eq_some_iff.mp ht).1
  refine x_ret (h := ?_)
  refine Subscript_ ?_
  refine e_attr (hk := ak_term_ops _) (h := ?_)
  refine e_var (h := ?_)
  refine c_op (h := ?_); intro _
  all_goals exact hq _ _ (back (by assumption) (by assumption) rfl ⟨⟨_, rfl⟩, rfl⟩)
set_option maxHeartbeats 8000000 in
theorem args_does (w : World) {D U : Nat} (hD : D < 700) (hU : U < 1500) {a : BA} {b : BS} {rest news : Led} {n : Nat} {tn : Tok} {k : Key}
  (hA : a.Ok) (hB : Bank w rest b) (hlen : b.T.length ≤ 1000) (hsub : ∀ p ∈ BL a b ++ rest, p ∈ news) (ht : b.T[n]? = some k) :
  Does w 361 [.ref a.bk, .int n tn] D U news (fun v news' => (∃ c, v = .ref c ∧ IntTup rest k.2.1 c) ∧ news' = news) := by
  refine' does_intro' (names := [Str.ofString "self", Str.ofString "t"]) (k := 0) (vals := [some (.ref a.bk), some (.int n tn)]) ?hvals ?ho ?hcd ?hD ?hbind ?hall ?hnd ?hco ?hgen ?hk ?hcell ?body
  tb_start
  intro K A0 base mean mg mb g L h gs dr os tk0 Q lv B X T F N lt hdp hun hq
  have hd1 := Nat.lt_of_le_of_lt hdp (Nat.add_lt_add_right hD 1)
  have hu1 := Nat.lt_of_le_of_lt hun (Nat.add_lt_add_right hU 3)
  show wpAny _ _ (execs (_ :: _) _) _ _ _
  have v0 := lv 0 (Str.ofString "self") rfl
  have v1 := lv 1 (Str.ofString "t") rfl
  clear lv
  obtain ⟨bk, bd, sw, fr, to, ta, ts, td, nm, es, nE, swO, frO⟩ := a
  obtain ⟨c1, c2, c3, c4, c5, c6, c7, c8, lo, htn, hfn, g1, g2, g3, g4, g5, g6, g7, hno⟩ := hA
  dsimp only [BL, BA.adr, List.cons_append, List.nil_append] at *
  have m1 := hsub _ (.head _)
  have m2 := hsub _ (.tail _ (.head _))
  have m3 := hsub _ (.tail _ (.tail _ (.head _)))
  have m4 := hsub _ (.tail _ (.tail _ (.tail _ (.head _))))
  have m5 := hsub _ (.tail _ (.tail _ (.tail _ (.tail _ (.head _)))))
  have m6 := hsub _ (.tail _ (.tail _ (.tail _ (.tail _ (.tail _ (.head _))))))
  have m7 := hsub _ (.tail _ (.tail _ (.tail _ (.tail _ (.tail _ (.tail _ (.head _)))))))
  have m8 := hsub _ (.tail _ (.tail _ (.tail _ (.tail _ (.tail _ (.tail _ (.tail _ (.head _))))))))
  have hsr : ∀ p ∈ rest, p ∈ news := fun p hp => hsub p (.tail _ (.tail _ (.tail _ (.tail _ (.tail _ (.tail _ (.tail _ (.tail _ (.tail _ hp)))))))))
  have hn : n < b.T.length := (List.getElem?_eq_some_iff.mp ht).1
  refine x_ret (h := ?_)
  refine Subscript_ ?_
  refine e_attr (hk := ak_term_args _) (h := ?_)
  refine e_var (h := ?_)
  refine c_args (h := ?_); intro _ _
  all_goals exact hq _ _ (back (by assumption) (by assumption) rfl ⟨⟨_, rfl, by assumption⟩, rfl⟩)
set_option maxHeartbeats 8000000 in
theorem sort_does (w : World) {D U : Nat} (hD : D < 700) (hU : U < 1500) {a : BA} {b : BS} {rest news : Led} {n : Nat} {tn : Tok} {k : Key}
  (hA : a.Ok) (hB : Bank w rest b) (hlen : b.T.length ≤ 1000) (hsub : ∀ p ∈ BL a b ++ rest, p ∈ news) (ht : b.T[n]? = some k) :
  Does w 368 [.ref a.bk, .int n tn] D U news (fun v news' => (∃ t, v = .int 0 t) ∧ news' = news) := by
  refine' does_intro' (names := [Str.ofString "self", Str.ofString "t"]) (k := 0) (vals := [some (.ref a.bk), some (.int n tn)]) ?hvals ?ho ?hcd ?hD ?hbind ?hall ?hnd ?hco ?hgen ?hk ?hcell ?body
  tb_start
  intro K A0 base mean mg mb g L h gs dr os tk0 Q lv B X T F N lt hdp hun hq
  have hd1 := Nat.lt_of_le_of_lt hdp (Nat.add_lt_add_right hD 1)
  have hu1 := Nat.lt_of_le_of_lt hun (Nat.add_lt_add_right hU 3)
  show wpAny _ _ (execs (_ :: _) _) _ _ _
  have v0 := lv 0 (Str.ofString "self") rfl
  have v1 := lv 1 (Str.ofString "t") rfl
  clear lv
  obtain ⟨bk, bd, sw, fr, to, ta, ts, td, nm, es, nE, swO, frO⟩ := a
  obtain ⟨c1, c2, c3, c4, c5, c6, c7, c8, lo, htn, hfn, g1, g2, g3, g4, g5, g6, g7, hno⟩ := hA
  dsimp only [BL, BA.adr, List.cons_append, List.nil_append] at *
  have m1 := hsub _ (.head _)
  have m2 := hsub _ (.tail _ (.head _))
  have m3 := hsub _ (.tail _ (.tail _ (.head _)))
  have m4 := hsub _ (.tail _ (.tail _ (.tail _ (.head _))))
  have m5 := hsub _ (.tail _ (.tail _ (.tail _ (.tail _ (.head _)))))
  have m6 := hsub _ (.tail _ (.tail _ (.tail _ (.tail _ (.tail _ (.head _))))))
  have m7 := hsub _ (.tail _ (.tail _ (.tail _ (.tail _ (.tail _ (.tail _ (.head _)))))))
  have m8 := hsub _ (.tail _ (.tail _ (.tail _ (.tail _ (.tail _ (.tail _ (.tail _ (.head _))))))))
  have hsr : ∀ p ∈ rest, p ∈ news := fun p hp => hsub p (.tail _ (.tail _ (.tail _ (.tail _ (.tail _ (.tail _ (.tail _ (.tail _ (.tail _ hp)))))))))
  have hn : n < b.T.length := (List.getElem?_eq_some_iff.mp ht).1
  refine x_ret (h := ?_)
  refine Subscript_ ?_
  refine e_attr (hk := ak_term_sorts _) (h := ?_)
  refine e_var (h := ?_)
  refine c_sort (h := ?_); intro _
  all_goals exact hq _ _ (back (by assumption) (by assumption) rfl ⟨⟨_, rfl⟩, rfl⟩)
set_option maxHeartbeats 8000000 in
theorem data_does (w : World) {D U : Nat} (hD : D < 700) (hU : U < 1500) {a : BA} {b : BS} {rest news : Led} {n : Nat} {tn : Tok} {k : Key}
  (hA : a.Ok) (hB : Bank w rest b) (hlen : b.T.length ≤ 1000) (hsub : ∀ p ∈ BL a b ++ rest, p ∈ news) (ht : b.T[n]? = some k) :
  Does w 375 [.ref a.bk, .int n tn] D U news (fun v news' => (∃ t, v = .int k.2.2 t) ∧ news' = news) := by
  refine' does_intro' (names := [Str.ofString "self", Str.ofString "t"]) (k := 0) (vals := [some (.ref a.bk), some (.int n tn)]) ?hvals ?ho ?hcd ?hD ?hbind ?hall ?hnd ?hco ?hgen ?hk ?hcell ?body
  tb_start
  intro K A0 base mean mg mb g L h gs dr os tk0 Q lv B X T F N lt hdp hun hq
  have hd1 := Nat.lt_of_le_of_lt hdp (Nat.add_lt_add_right hD 1)
  have hu1 := Nat.lt_of_le_of_lt hun (Nat.add_lt_add_right hU 3)
  show wpAny _ _ (execs (_ :: _) _) _ _ _
  have v0 := lv 0 (Str.ofString "self") rfl
  have v1 := lv 1 (Str.ofString "t") rfl
  clear lv
  obtain ⟨bk, bd, sw, fr, to, ta, ts, td, nm, es, nE, swO, frO⟩ := a
  obtain ⟨c1, c2, c3, c4, c5, c6, c7, c8, lo, htn, hfn, g1, g2, g3, g4, g5, g6, g7, hno⟩ := hA
  dsimp only [BL, BA.adr, List.cons_append, List.nil_append] at *
  have m1 := hsub _ (.head _)
  have m2 := hsub _ (.tail _ (.head _))
  have m3 := hsub _ (.tail _ (.tail _ (.head _)))
  have m4 := hsub _ (.tail _ (.tail _ (.tail _ (.head _))))
  have m5 := hsub _ (.tail _ (.tail _ (.tail _ (.tail _ (.head _)))))
  have m6 := hsub _ (.tail _ (.tail _ (.tail _ (.tail _ (.tail _ (.head _))))))
  have m7 := hsub _ (.tail _ (.tail _ (.tail _ (.tail _ (.tail _ (.tail _ (.head _)))))))
  have m8 := hsub _ (.tail _ (.tail _ (.tail _ (.tail _ (.tail _ (.tail _ (.tail _ (.head _))))))))
  have hsr : ∀ p ∈ rest, p ∈ news := fun p hp => hsub p (.tail _ (.tail _ (.tail _ (.tail _ (.tail _ (.tail _ (.tail _ (.tail _ (.tail _ hp)))))))))
  have hn : n < b.T.length := (List.getElem?_eq_some_iff.mp ht).1
  refine x_ret (h := ?_)
  refine Subscript_ ?_
  refine e_attr (hk := ak_term_datas _) (h := ?_)
  refine e_var (h := ?_)
  refine c_data (h := ?_); intro _
  all_goals exact hq _ _ (back (by assumption) (by assumption) rfl ⟨⟨_, rfl⟩, rfl⟩)
set_option maxHeartbeats 8000000 in
theorem width_does (w : World) {D U : Nat} (hD : D < 700) (hU : U < 1500) {a : BA} {b : BS} {rest news : Led} {n : Nat} {tn : Tok} {k : Key}
  (hA : a.Ok) (hB : Bank w rest b) (hlen : b.T.length ≤ 1000) (hsub : ∀ p ∈ BL a b ++ rest, p ∈ news) (ht : b.T[n]? = some k) (hsw : ∃ u0 u1 u2 nz, a.swO = listOf [Value.int 0 u0, .int 0 u1, .int 0 u2].toArray nz) :
  Does w 382 [.ref a.bk, .int n tn] D U news (fun v news' => (∃ t, v = .int 0 t) ∧ news' = news) := by
  refine' does_intro' (names := [Str.ofString "self", Str.ofString "t"]) (k := 0) (vals := [some (.ref a.bk), some (.int n tn)]) ?hvals ?ho ?hcd ?hD ?hbind ?hall ?hnd ?hco ?hgen ?hk ?hcell ?body
  tb_start
  intro K A0 base mean mg mb g L h gs dr os tk0 Q lv B X T F N lt hdp hun hq
  have hd1 := Nat.lt_of_le_of_lt hdp (Nat.add_lt_add_right hD 1)
  have hu1 := Nat.lt_of_le_of_lt hun (Nat.add_lt_add_right hU 3)
  show wpAny _ _ (execs (_ :: _) _) _ _ _
  have v0 := lv 0 (Str.ofString "self") rfl
  have v1 := lv 1 (Str.ofString "t") rfl
  clear lv
  obtain ⟨bk, bd, sw, fr, to, ta, ts, td, nm, es, nE, swO, frO⟩ := a
  obtain ⟨c1, c2, c3, c4, c5, c6, c7, c8, lo, htn, hfn, g1, g2, g3, g4, g5, g6, g7, hno⟩ := hA
  dsimp only [BL, BA.adr, List.cons_append, List.nil_append] at *
  have m1 := hsub _ (.head _)
  have m2 := hsub _ (.tail _ (.head _))
  have m3 := hsub _ (.tail _ (.tail _ (.head _)))
  have m4 := hsub _ (.tail _ (.tail _ (.tail _ (.head _))))
  have m5 := hsub _ (.tail _ (.tail _ (.tail _ (.tail _ (.head _)))))
  have m6 := hsub _ (.tail _ (.tail _ (.tail _ (.tail _ (.tail _ (.head _))))))
  have m7 := hsub _ (.tail _ (.tail _ (.tail _ (.tail _ (.tail _ (.tail _ (.head _)))))))
  have m8 := hsub _ (.tail _ (.tail _ (.tail _ (.tail _ (.tail _ (.tail _ (.tail _ (.head _))))))))
  have hsr : ∀ p ∈ rest, p ∈ news := fun p hp => hsub p (.tail _ (.tail _ (.tail _ (.tail _ (.tail _ (.tail _ (.tail _ (.tail _ (.tail _ hp)))))))))
  have hn : n < b.T.length := (List.getElem?_eq_some_iff.mp ht).1
  obtain ⟨u0, u1, u2, nz, rfl⟩ := hsw
  refine x_ret (h := ?_)
  refine Subscript_ ?_
  refine e_attr (hk := ak_sort_widths _) (h := ?_)
  refine Subscript_ ?_
  refine e_attr (hk := ak_term_sorts _) (h := ?_)
  refine e_var (h := ?_)
  refine c_sort (h := ?_); intro _
  refine c_itemL (h := ?_)
  all_goals exact hq _ _ (back (by assumption) (by assumption) rfl ⟨⟨_, rfl⟩, rfl⟩)
set_option maxHeartbeats 8000000 in
theorem funres_does (w : World) {D U : Nat} (hD : D < 700) (hU : U < 1500) {a : BA} {b : BS} {rest news : Led} {n : Nat} {tn : Tok}
  (hA : a.Ok) (hB : Bank w rest b) (hlen : b.T.length ≤ 1000) (hsub : ∀ p ∈ BL a b ++ rest, p ∈ news) (hn : n < 3) (hsw : ∃ u0 u1 u2 nz, a.frO = listOf [Value.int 0 u0, .int 0 u1, .int 0 u2].toArray nz) :
  Does w 340 [.ref a.bk, .int n tn] D U news (fun v news' => (∃ t, v = .int 0 t) ∧ news' = news) := by
  refine' does_intro' (names := [Str.ofString "self", Str.ofString "f"]) (k := 0) (vals := [some (.ref a.bk), some (.int n tn)]) ?hvals ?ho ?hcd ?hD ?hbind ?hall ?hnd ?hco ?hgen ?hk ?hcell ?body
  tb_start
  intro K A0 base mean mg mb g L h gs dr os tk0 Q lv B X T F N lt hdp hun hq
  have hd1 := Nat.lt_of_le_of_lt hdp (Nat.add_lt_add_right hD 1)
  have hu1 := Nat.lt_of_le_of_lt hun (Nat.add_lt_add_right hU 3)
  show wpAny _ _ (execs (_ :: _) _) _ _ _
  have v0 := lv 0 (Str.ofString "self") rfl
  have v1 := lv 1 (Str.ofString "f") rfl
  clear lv
  obtain ⟨bk, bd, sw, fr, to, ta, ts, td, nm, es, nE, swO, frO⟩ := a
  obtain ⟨c1, c2, c3, c4, c5, c6, c7, c8, lo, htn, hfn, g1, g2, g3, g4, g5, g6, g7, hno⟩ := hA
  dsimp only [BL, BA.adr, List.cons_append, List.nil_append] at *
  have m1 := hsub _ (.head _)
  have m2 := hsub _ (.tail _ (.head _))
  have m3 := hsub _ (.tail _ (.tail _ (.head _)))
  have m4 := hsub _ (.tail _ (.tail _ (.tail _ (.head _))))
  have m5 := hsub _ (.tail _ (.tail _ (.tail _ (.tail _ (.head _)))))
  have m6 := hsub _ (.tail _ (.tail _ (.tail _ (.tail _ (.tail _ (.head _))))))
  have m7 := hsub _ (.tail _ (.tail _ (.tail _ (.tail _ (.tail _ (.tail _ (.head _)))))))
  have m8 := hsub _ (.tail _ (.tail _ (.tail _ (.tail _ (.tail _ (.tail _ (.tail _ (.head _))))))))
  have hsr : ∀ p ∈ rest, p ∈ news := fun p hp => hsub p (.tail _ (.tail _ (.tail _ (.tail _ (.tail _ (.tail _ (.tail _ (.tail _ (.tail _ hp)))))))))
  obtain ⟨u0, u1, u2, nz, rfl⟩ := hsw
  obtain rfl | rfl | rfl : n = 0 ∨ n = 1 ∨ n = 2 := by omega
  focus
    refine x_ret (h := ?_)
    refine Subscript_ ?_
    refine e_attr (hk := ak_fun_results _) (h := ?_)
    refine e_var (h := ?_)
    refine c_itemL (h := ?_)
  rotate_left
  focus
    refine x_ret (h := ?_)
    refine Subscript_ ?_
    refine e_attr (hk := ak_fun_results _) (h := ?_)
    refine e_var (h := ?_)
    refine c_itemL (h := ?_)
  rotate_left
  focus
    refine x_ret (h := ?_)
    refine Subscript_ ?_
    refine e_attr (hk := ak_fun_results _) (h := ?_)
    refine e_var (h := ?_)
    refine c_itemL (h := ?_)
  rotate_left
  all_goals exact hq _ _ (back (by assumption) (by assumption) rfl ⟨⟨_, rfl⟩, rfl⟩)
/- Pt -/
noncomputable def dn (fs : List Nat) : List (Int × Value) := fs.map fun n : Nat => ((n : Int), Value.bool true)
theorem dn_at (fs : List Nat) (t : Nat) : (valueAt (dn fs) (t : Int)).isSome = fs.contains t := by
  rw [valueAt_isSome_eq_any]
  unfold dn
  induction fs with
  | nil => rfl
  | cons x r ih =>
    rw [List.map_cons, List.any_cons, List.contains_cons, ih]
    congr 1
    by_cases h : t = x
    · subst h; simp
    · have : (x : Int) ≠ t := by omega
      simp [h, this]
theorem dn_snoc {fs : List Nat} {t : Nat} (h : fs.contains t = false) : stored (dn fs) (t : Int) (.bool true) = dn (fs ++ [t]) := by
  rw [stored_absent]
  · unfold dn; simp
  · have := dn_at fs t
    rw [h] at this
    cases hq : valueAt (dn fs) (t : Int) with
    | none => rfl
    | some v => rw [hq] at this; exact nomatch this
theorem ni_snoc (l : List Nat) (x : Nat) : ni (l ++ [x]) = ni l ++ [(x : Int)] := by unfold ni; simp
theorem ints_snoc {vs : List Value} {ns : List Int} {n : Int} {t : Tok} (h : IntsAre vs ns) : IntsAre (vs ++ [.int n t]) (ns ++ [n]) := by
  induction h with
  | nil => exact .cons _ _ .nil
  | cons _ _ _ ih => exact .cons _ _ ih
theorem Rel2.pop {β : Type} {R : Value → β → Prop} {vs : List Value} {xs : List β} {x : β} (h : Rel2 R vs (xs ++ [x])) : ∃ vs' v, vs = vs' ++ [v] ∧ Rel2 R vs' xs ∧ R v x := by
  have hl : vs.length = xs.length + 1 := by have := h.1; simpa using this
  have hne : vs ≠ [] := by rintro rfl; simp at hl
  obtain ⟨vs', v, rfl⟩ : ∃ vs' v, vs = vs' ++ [v] := ⟨vs.dropLast, vs.getLast hne, (List.dropLast_concat_getLast hne).symm⟩
  have hl' : vs'.length = xs.length := by simpa using hl
  refine ⟨vs', v, rfl, ⟨hl', fun i y hy => ?_⟩, ?_⟩
  · have hi : i < xs.length := (List.getElem?_eq_some_iff.mp hy).1
    obtain ⟨u, hu, r⟩ := h.2 i y (by rw [List.getElem?_append_left hi]; exact hy)
    rw [List.getElem?_append_left (by omega)] at hu
    exact ⟨u, hu, r⟩
  · obtain ⟨u, hu, r⟩ := h.2 xs.length x (by rw [List.getElem?_concat_length])
    rw [← hl', List.getElem?_concat_length] at hu
    rw [Option.some.inj hu]; exact r
/-- the stack's items -/
noncomputable def Stk (R : Led) (vsS : List Value) (S : List (Nat × Bool)) : Prop := Rel2 (fun v (p : Nat × Bool) => ∃ c t k, v = .ref c ∧ (c, tup [.int (p.1 : Nat) t, .bool p.2] k) ∈ R) vsS S
theorem Stk.mono {R R' : Led} {vsS : List Value} {S : List (Nat × Bool)} (h : Stk R vsS S) (k : ∀ p ∈ R, p ∈ R') : Stk R' vsS S := Rel2.mono h fun _ _ ⟨c, t, n, e, hm⟩ => ⟨c, t, n, e, k _ hm⟩
theorem Stk.push {R : Led} {vsS : List Value} {S : List (Nat × Bool)} {c : Addr} {x : Nat} {t : Tok} {o : Bool} {k : Nat} (h : Stk R vsS S) (hm : (c, tup [.int (x : Nat) t, .bool o] k) ∈ R) : Stk R (vsS ++ [.ref c]) (S ++ [(x, o)]) := Rel2.push h ⟨c, t, k, rfl, hm⟩
theorem offs {l : Led} {adr : List Addr} {D : Addr} {o : Obj} (h : OwnOff l adr) (k : ∀ b ∈ adr, @Ne Nat D b) : OwnOff ((D, o) :: l) adr := by
  intro p hp b hb
  rcases List.mem_cons.mp hp with e | hp
  · rw [e]; exact k b hb
  · exact h p hp b hb
theorem ints_get : ∀ {vs : List Value} {ns : List Nat} {k : Nat} {v : Value}, IntsAre vs (ni ns) → vs[k]? = some v → ∃ r t, ns[k]? = some r ∧ v = .int (r : Nat) t := by
  intro vs ns
  induction ns generalizing vs with
  | nil => intro k v h hv; cases h; simp at hv
  | cons n r ih =>
    intro k v h hv
    cases h with
    | cons _ t h =>
      cases k with
      | zero => rw [List.getElem?_cons_zero] at hv; exact ⟨n, t, rfl, (Option.some.inj hv).symm⟩
      | succ k => rw [List.getElem?_cons_succ] at hv; exact ih h hv
theorem ints_at2 : ∀ {vs : List Value} {ns : List Int} {k : Nat} {v : Value}, IntsAre vs ns → vs[k]? = some v → ∃ r t, ns[k]? = some r ∧ v = .int r t := by
  intro vs ns
  induction ns generalizing vs with
  | nil => intro k v h hv; cases h; simp at hv
  | cons n r ih =>
    intro k v h hv
    cases h with
    | cons _ t h =>
      cases k with
      | zero => rw [List.getElem?_cons_zero] at hv; exact ⟨n, t, rfl, (Option.some.inj hv).symm⟩
      | succ k => rw [List.getElem?_cons_succ] at hv; exact ih h hv
theorem ints_rev {vs : List Value} {ns : List Int} (h : IntsAre vs ns) : IntsAre vs.reverse ns.reverse := by
  induction h with
  | nil => exact .nil
  | cons _ _ _ ih => rw [List.reverse_cons, List.reverse_cons]; exact ints_snoc ih
theorem take_snoc {α : Type} {l : List α} {k : Nat} {x : α} (h : l[k]? = some x) : l.take (k + 1) = l.take k ++ [x] := by
  rw [List.take_add_one, h]; rfl
theorem wturn_cont {g h' : Heap} {L : Addr} {gs : Array GenState} {dr : Drawn} {os : OsState} {names : List Str} {J : Nat → List (Option Value) → Led → Prop} {n n' tk' : Nat} {Q : Flow → Shared → Prop} {vals' : List (Option Value)} {news' : Led} (F' : Fr g L h' (lkv names vals')) (N' : News g L h' news') (hn : n' < n) (hJ : J n' vals' news') : WTurn g L gs dr os names J n Q .cont ⟨h', gs, dr, tk', os⟩ := ⟨h', tk', vals', news', n', rfl, F', N', hn, hJ⟩
theorem wturn_next {g h' : Heap} {L : Addr} {gs : Array GenState} {dr : Drawn} {os : OsState} {names : List Str} {J : Nat → List (Option Value) → Led → Prop} {n n' tk' : Nat} {Q : Flow → Shared → Prop} {vals' : List (Option Value)} {news' : Led} (F' : Fr g L h' (lkv names vals')) (N' : News g L h' news') (hn : n' < n) (hJ : J n' vals' news') : WTurn g L gs dr os names J n Q .next ⟨h', gs, dr, tk', os⟩ := ⟨h', tk', vals', news', n', rfl, F', N', hn, hJ⟩
theorem turn_next {g h' : Heap} {L I : Addr} {gs : Array GenState} {dr : Drawn} {os : OsState} {names : List Str} {J : List (Option Value) → Led → Prop} {tk' : Nat} {oI : Obj} {Q : Flow → Shared → Prop} {vals' : List (Option Value)} {news' : Led} (F' : Fr g L h' (lkv names vals')) (N' : News g L h' ((I, oI) :: news')) (hne : ∀ p ∈ news', p.1 ≠ I) (hJ : J vals' news') : Turn g L gs dr os names J I oI Q .next ⟨h', gs, dr, tk', os⟩ := ⟨h', tk', vals', news', rfl, F', N', hne, hJ⟩
theorem turn_cont {g h' : Heap} {L I : Addr} {gs : Array GenState} {dr : Drawn} {os : OsState} {names : List Str} {J : List (Option Value) → Led → Prop} {tk' : Nat} {oI : Obj} {Q : Flow → Shared → Prop} {vals' : List (Option Value)} {news' : Led} (F' : Fr g L h' (lkv names vals')) (N' : News g L h' ((I, oI) :: news')) (hne : ∀ p ∈ news', p.1 ≠ I) (hJ : J vals' news') : Turn g L gs dr os names J I oI Q .cont ⟨h', gs, dr, tk', os⟩ := ⟨h', tk', vals', news', rfl, F', N', hne, hJ⟩
theorem Dfs.fs_len {T : List Key} {roots fs : List Nat} {S : List (Nat × Bool)} (h : Dfs T roots fs S) : fs.length ≤ T.length := nodup_len h.nd fun x hx => (h.tn x hx).2
theorem NodeOk.len3 {i : Nat} {k : Key} (h : NodeOk i k) : k.2.1.length ≤ 3 := by cases h <;> simp
theorem todo_len (fs : List Nat) (as : List Int) : (todo fs as).length ≤ as.length := by
  unfold todo
  rw [List.length_map]
  exact Nat.le_trans (List.length_filter_le _ _) (by rw [List.length_map]; exact Nat.le_refl _)
set_option maxHeartbeats 8000000 in
theorem parts_does (w : World) {D U : Nat} (hD : D < 600) (hU : U < 1200) {a : BA} {b : BS} {rest news : Led} {l : Addr} {oS : Obj} {vs : List Value} {roots : List Nat} {nl : Nat}
  (hA : a.Ok) (hB : Bank w rest b) (wf : Wf b.T) (hlen : b.T.length ≤ 13) (hsub : ∀ p ∈ BL a b ++ rest, p ∈ news) (hl : (l, oS) ∈ news) (ho : oS = listOf vs.toArray nl ∨ oS = tup vs nl) (hi : IntsAre vs (ni roots)) (hr : ∀ x ∈ roots, Tn b.T x) :
  Does w 459 [.ref a.bk, .ref l] D U news (fun v news' => ∃ D fs vsF nF, v = .ref D ∧ news' = (D, listOf vsF.toArray nF) :: news ∧ AllLt D news ∧ IntsAre vsF (ni fs) ∧ Topo b.T roots fs) := by
  refine' does_intro' (names := [Str.ofString "self", Str.ofString "some", Str.ofString "found", Str.ofString "done", Str.ofString "root", Str.ofString "stack", Str.ofString "t", Str.ofString "is_open", Str.ofString "part"]) (k := 7) (vals := [some (.ref a.bk), some (.ref l), none, none, none, none, none, none, none]) ?hvals ?ho ?hcd ?hD ?hbind ?hall ?hnd ?hco ?hgen ?hk ?hcell ?body
  tb_start
  intro K A0 base mean mg mb g L h gs dr os tk0 Q lv B X T F N lt hdp hun hq
  have hd1 := Nat.lt_of_le_of_lt hdp (Nat.add_lt_add_right hD 1)
  have hu1 := Nat.lt_of_le_of_lt hun (Nat.add_lt_add_right hU 3)
  show wpAny _ _ (execs (_ :: _) _) _ _ _
  have v0 := lv 0 (Str.ofString "self") rfl
  have v1 := lv 1 (Str.ofString "some") rfl
  have v2 := lv 2 (Str.ofString "found") rfl
  have v3 := lv 3 (Str.ofString "done") rfl
  have v4 := lv 4 (Str.ofString "root") rfl
  have v5 := lv 5 (Str.ofString "stack") rfl
  have v6 := lv 6 (Str.ofString "t") rfl
  have v7 := lv 7 (Str.ofString "is_open") rfl
  have v8 := lv 8 (Str.ofString "part") rfl
  clear lv
  obtain ⟨bk, bd, sw, fr, to, ta, ts, td, nm, es, nE, swO, frO⟩ := a
  obtain ⟨c1, c2, c3, c4, c5, c6, c7, c8, lo, htn, hfn, g1, g2, g3, g4, g5, g6, g7, hno⟩ := hA
  dsimp only [BL, BA.adr, List.cons_append, List.nil_append] at *
  have m1 := hsub _ (.head _)
  have m2 := hsub _ (.tail _ (.head _))
  have m3 := hsub _ (.tail _ (.tail _ (.head _)))
  have m4 := hsub _ (.tail _ (.tail _ (.tail _ (.head _))))
  have m5 := hsub _ (.tail _ (.tail _ (.tail _ (.tail _ (.head _)))))
  have m6 := hsub _ (.tail _ (.tail _ (.tail _ (.tail _ (.tail _ (.head _))))))
  have m7 := hsub _ (.tail _ (.tail _ (.tail _ (.tail _ (.tail _ (.tail _ (.head _)))))))
  have m8 := hsub _ (.tail _ (.tail _ (.tail _ (.tail _ (.tail _ (.tail _ (.tail _ (.head _))))))))
  have hsr : ∀ p ∈ rest, p ∈ news := fun p hp => hsub p (.tail _ (.tail _ (.tail _ (.tail _ (.tail _ (.tail _ (.tail _ (.tail _ (.tail _ hp)))))))))
  refine x_asgTs (h := ?_)
  refine e_tup (h := ?_)
  refine wa_cons (h := ?_)
  refine e_list (h := ?_)
  refine wa_nil (h := ?_)
  refine n_list (h := ?_); walk_at "p1"
  refine wa_cons (h := ?_)
  refine n_dict (h := ?_); walk_at "p3"
  refine wa_nil (h := ?_)
  refine n_tup (h := ?_); walk_at "p1"
  refine u_tup (h := ?_); intro _ _ _; k_sweep; (try refine ⟨_, _, rfl, ?_⟩)
  refine a_more (h := ?_)
  refine b_name (h := ?_)
  refine s_var (h := ?_); walk_at "p9"
  refine a_more (h := ?_)
  refine b_name (h := ?_)
  refine s_var (h := ?_); walk_at "p9"
  refine a_none (h := ?_)
  refine x_for (hs := by (intro v; with_unfolding_all rfl)) (h := ?_)
  refine e_var (h := ?_)
  rename_i Fd hx1 lF Dn hx2 oD0 lD lo' hd0 Tp hx3 lT hx4 hx5 hx6 F2 N2
  have N3 : News g L _ ((Fd, listOf ([] : List Value).toArray 0) :: (Dn, oD0) :: news) := N2.perm (by
    intro p hp
    simp only [List.mem_cons] at hp ⊢
    rcases hp with hp | hp | hp
    · exact .inr (.inr (.inl hp))
    · exact .inr (.inl hp)
    · exact .inr (.inr (.inr hp)))
  clear N2 lT Tp
  have hFD : @LT.lt Nat _ Fd Dn := lD.1
  have off0 : OwnOff news [Fd, Dn] := by
    intro p hp x hx
    have h1 := AllLt.mem lF p hp
    have h2 := AllLt.mem lD.2 p hp
    simp only [List.mem_cons, List.not_mem_nil, or_false] at hx
    rcases hx with rfl | rfl
    · exact Nat.ne_of_lt h1
    · exact Nat.ne_of_lt h2
  refine p_seq rfl F2 N3 (.tail _ (.tail _ hl)) ho v4 (fun k vals' news' => ∃ fs vsF nF oD u4 u5 u6 u7 u8, vals' = [some (.ref bk), some (.ref l), some (.ref Fd), some (.ref Dn), u4, u5, u6, u7, u8] ∧ news' = (Fd, listOf vsF.toArray nF) :: (Dn, oD) :: news ∧ IntsAre vsF (ni fs) ∧ oD.IsDictOf (PySem.intKind PRG w) (dn fs) ∧ Dfs b.T roots fs [] ∧ ∀ r ∈ roots.take k, r ∈ fs) ?start ?hJl ?hJn ?turn ?done
  case start => exact ⟨[], [], 0, oD0, _, _, _, _, _, rfl, rfl, .nil, hd0, Dfs.nil, by simp⟩
  case hJl => rintro k vals' news' ⟨fs, vsF, nF, oD, _, _, _, _, _, _, rfl, _⟩; exact .tail _ (.tail _ hl)
  case hJn => rintro k vals' news' ⟨fs, vsF, nF, oD, _, _, _, _, _, rfl, _⟩; rfl
  case done =>
    rintro vals' news' h' tk' ⟨fs, vsF, nF, oD, u4, u5, u6, u7, u8, rfl, rfl, hF, hDd, hdfs, hall⟩ F' N'
    show wpAny _ _ (execs _ _) _ _ _
    clear F2 N3
    refine x_ret (h := ?_)
    refine e_var (h := ?_)
    have hlr : vs.length = roots.length := by rw [hi.length]; unfold ni; rw [List.length_map]
    rw [hlr, List.take_length] at hall
    refine hq _ _ (back F' (N'.perm (fun p hp => by simp only [List.mem_cons] at hp ⊢; rcases hp with hp | hp; exact .inl hp; exact .inr (.inr hp))) rfl ⟨Fd, fs, vsF, nF, rfl, rfl, lF, hF, hdfs.topo hall⟩)
  case turn =>
    rintro k v vals1 news1 h1 tk1 I oI' hv ⟨fs, vsF, nF, oD, u4, u5, u6, u7, u8, rfl, rfl, hF, hDd, hdfs, hall⟩ hne F1 N1 QT hQT
    clear F2 N3
    dsimp only [List.set_cons_succ, List.set_cons_zero] at F1
    obtain ⟨r, tr, hrk, rfl⟩ := ints_get hi hv
    have hrm : r ∈ roots := List.mem_of_getElem? hrk
    have hrT := hr r hrm
    have hIF : @Ne Nat Fd I := hne (Fd, listOf vsF.toArray nF) (.head _)
    have hID : @Ne Nat Dn I := hne (Dn, oD) (.tail _ (.head _))
    have offI : OwnOff ((I, oI') :: news) [Fd, Dn] := offs off0 (by
      intro b hb
      simp only [List.mem_cons, List.not_mem_nil, or_false] at hb
      rcases hb with rfl | rfl <;> omega)
    refine x_asg (h := ?_)
    refine e_list (h := ?_)
    refine wa_cons (h := ?_)
    refine e_tup (h := ?_)
    refine wa_cons (h := ?_)
    refine e_var (h := ?_)
    refine wa_cons (h := ?_)
    refine e_bool (h := ?_)
    refine wa_nil (h := ?_)
    refine n_tup (h := ?_); walk_at "p1"
    refine wa_nil (h := ?_)
    refine n_list (h := ?_); walk_at "p1"
    refine s_var (h := ?_); walk_at "p9"
    rename_i Tp hy1 lTp Sk hy2 lSk hy3 F2 N2
    obtain ⟨l1, l2, l3, l4⟩ := lTp
    obtain ⟨k1, k2, k3, k4, k5⟩ := lSk
    have offR : OwnOff ((Tp, tup [.int (r : Nat) tr, .bool false] 0) :: (I, oI') :: news) [Fd, Dn, Sk] := by
      refine offs (offs ?_ ?_) ?_
      · intro p hp b hb
        simp only [List.mem_cons, List.not_mem_nil, or_false] at hb
        rcases hb with rfl | rfl | rfl
        · exact off0 p hp _ (by simp)
        · exact off0 p hp _ (by simp)
        · exact Nat.ne_of_lt (AllLt.mem k5 p hp)
      · intro b hb
        simp only [List.mem_cons, List.not_mem_nil, or_false] at hb
        rcases hb with rfl | rfl | rfl <;> omega
      · intro b hb
        simp only [List.mem_cons, List.not_mem_nil, or_false] at hb
        rcases hb with rfl | rfl | rfl <;> omega
    have N3 : News g L _ ((Fd, listOf vsF.toArray nF) :: (Dn, oD) :: (Sk, listOf [Value.ref Tp].toArray 0) :: (Tp, tup [.int (r : Nat) tr, .bool false] 0) :: (I, oI') :: news) := N2.perm (by
      intro p hp
      simp only [List.mem_cons] at hp ⊢
      rcases hp with hp | hp | hp | hp | hp | hp
      · exact .inr (.inr (.inr (.inl hp)))
      · exact .inr (.inr (.inr (.inr (.inl hp))))
      · exact .inl hp
      · exact .inr (.inl hp)
      · exact .inr (.inr (.inl hp))
      · exact .inr (.inr (.inr (.inr (.inr hp)))))
    clear N2
    have hwt := wt_small wf hrT hlen
    refine x_while F2 N3 (by passes_own) (fun n vals' news' => ∃ fs' vsF nF oD S vsS nS R u6 u7 u8, vals' = [some (.ref bk), some (.ref l), some (.ref Fd), some (.ref Dn), some (.int (r : Nat) tr), some (.ref Sk), u6, u7, u8] ∧ news' = (Fd, listOf vsF.toArray nF) :: (Dn, oD) :: (Sk, listOf vsS.toArray nS) :: R ∧ (∀ p ∈ (I, oI') :: news, p ∈ R) ∧ OwnOff R [Fd, Dn, Sk] ∧ IntsAre vsF (ni fs') ∧ oD.IsDictOf (PySem.intKind PRG w) (dn fs') ∧ Stk R vsS S ∧ Dfs b.T roots fs' S ∧ (r ∈ fs' ∨ ∃ b, (r, b) ∈ S) ∧ n = mu b.T S ∧ n ≤ 6560 ∧ (∀ q ∈ fs, q ∈ fs')) (n₀ := wt b.T r) ?start ?turn
    case start =>
      refine ⟨fs, vsF, nF, oD, [(r, false)], _, _, _, _, _, _, rfl, rfl, fun p hp => .tail _ hp, offR, hF, hDd, ?_, hdfs.start hrm hrT, .inr ⟨false, by simp⟩, ?_, hwt, fun _ h => h⟩
      · have h0 : Stk ((Tp, tup [.int (r : Nat) tr, .bool false] 0) :: (I, oI') :: news) [] [] := ⟨rfl, by simp⟩
        exact h0.push (.head _)
      · simp [mu]
    case turn =>
      clear F2 N3 hdfs hF hDd offR
      rintro n vals2 news2 h2 tk2 F2 N2 ⟨fs', vsF, nF, oD, S, vsS, nS, R, u6, u7, u8, rfl, rfl, hR, offR, hF, hDd, hS, hdfs, hrS, rfl, hn, hfs⟩ QT2 hQT2
      have hsl := mu_len wf (fun p hp => (hdfs.st p hp).1)
      rcases List.eq_nil_or_concat S with rfl | ⟨S', ⟨t, o⟩, rfl⟩
      · have hv0 : vsS = [] := List.length_eq_zero_iff.mp hS.1
        subst hv0
        refine t_cmp (h := ?_)
        refine e_bcall (hk := (bk_len _)) (hb := bb_len) (hne := bn_len) (h := ?_)
        refine wa_v1 (h := ?_)
        refine c_len (hz := by ((simp only [List.size_toArray, List.length_append, List.length_cons, List.length_nil]); omega)) (h := ?_)
        refine e_int (h := ?_)
        refine gt_int ?_
        refine truthy_b (h := ?_)
        refine if_f (hc := (by kernel_rfl!)) (h := ?_)
        refine x_nil (h := ?_)
        have hIR : (I, oI') ∈ R := hR _ (.head _)
        have e1 : @Ne Nat I Fd := offR _ hIR Fd (by simp)
        have e2 : @Ne Nat I Dn := offR _ hIR Dn (by simp)
        refine hQT _ _ (turn_next F2 (N2.perm (news' := (I, oI') :: (Fd, listOf vsF.toArray nF) :: (Dn, oD) :: news) ?_) ?_ ⟨fs', vsF, nF, oD, _, _, _, _, _, rfl, rfl, hF, hDd, hdfs, ?_⟩)
        · intro p hp
          simp only [List.mem_cons] at hp ⊢
          rcases hp with hp | hp | hp | hp
          · exact .inr (.inr (.inr (hp ▸ hIR)))
          · exact .inl hp
          · exact .inr (.inl hp)
          · exact .inr (.inr (.inr (hR p (.tail _ hp))))
        · intro p hp
          rcases List.mem_cons.mp hp with hp | hp
          · rw [hp]; exact hIF
          · rcases List.mem_cons.mp hp with hp | hp
            · rw [hp]; exact hID
            · exact hne p (.tail _ (.tail _ hp))
        · intro q hq'
          rw [take_snoc hrk] at hq'
          rcases List.mem_append.mp hq' with hq' | hq'
          · exact hfs q (hall q hq')
          · rw [List.mem_singleton.mp hq']
            rcases hrS with h | ⟨_, h⟩
            · exact h
            · exact nomatch h
      · rw [List.concat_eq_append] at *
        obtain ⟨vsS', y, rfl, hS', c, tc, kc, rfl, hmc⟩ := Rel2.pop hS
        have hsl' : vsS'.length ≤ 6560 := by have := hS'.1; rw [List.length_append, List.length_singleton] at hsl; omega
        have hfl := hdfs.fs_len
        have hvF : vsF.length ≤ 13 := by rw [hF.length]; unfold ni; rw [List.length_map]; omega
        have hdl : (dn fs').length ≤ 13 := by unfold dn; rw [List.length_map]; omega
        obtain ⟨htT, htR⟩ := hdfs.st (t, o) (by simp)
        dsimp only at htT htR hmc
        have hmu := mu_snoc (T := b.T) (S := S') (p := (t, o))
        have hwp := wt_pos wf htT
        cases hct : fs'.contains t with
        | true =>
          have hq1 := (dn_at fs' t).trans hct
          have htf : t ∈ fs' := by simpa using hct
          refine t_cmp (h := ?_)
          refine e_bcall (hk := (bk_len _)) (hb := bb_len) (hne := bn_len) (h := ?_)
          refine wa_v1 (h := ?_)
          refine c_len (hz := by ((simp only [List.size_toArray, List.length_append, List.length_cons, List.length_nil]); omega)) (h := ?_)
          refine e_int (h := ?_)
          refine gt_int ?_
          refine truthy_b (h := ?_)
          refine if_t (hc := (by kst_p2)) (h := ?_)
          refine x_asgTn (h := ?_)
          (refine' e_nmeth0 ?Fz68 ?lz68 ?vz68 ?pz68 (fun pl R h => gm_list PySem.F.slot_list_pop PySem.F.type_list_pop ?N2z68 ?mz68 h) ?_; (case Fz68 => with_reducible assumption); (case lz68 => with_reducible assumption); (case vz68 => exact rfl); (case pz68 => exact rfl); (case N2z68 => with_reducible assumption); (case mz68 => k_mem))
          refine c_pop (h := ?_); intro _ _ _; k_sweep
          refine as_tup (h := ?_); intro _ _ _; k_sweep; (dsimp only [assignEach, List.map])
          refine a_more (h := ?_)
          refine as_name (h := ?_)
          refine s_var (h := ?_); walk_at "p9"
          refine a_more (h := ?_)
          refine as_name (h := ?_)
          refine s_var (h := ?_); walk_at "p9"
          refine a_none (h := ?_)
          refine x_if (h := ?_)
          refine t_cmp (h := ?_)
          refine e_var (h := ?_)
          refine e_var (h := ?_)
          refine c_in (h := ?_)
          refine truthy_b (h := ?_)
          refine if_t (hc := (by kst_p2)) (h := ?_)
          refine x_cont (h := ?_)
          rename Fr g L _ _ => F3
          rename News g L _ _ => N3
          refine hQT2 _ _ (wturn_cont F3 N3 (n' := mu b.T S') ?_ ⟨fs', vsF, nF, oD, S', vsS', _, R, _, _, _, rfl, rfl, hR, offR, hF, hDd, hS', hdfs.skip htf, ?_, rfl, by omega, hfs⟩)
          · rw [hmu]; dsimp only; split <;> omega
          · rcases hrS with h | ⟨b', h⟩
            · exact .inl h
            · rcases List.mem_append.mp h with h | h
              · exact .inr ⟨b', h⟩
              · injection List.mem_singleton.mp h with e1 e2
                exact .inl (e1 ▸ htf)
        | false =>
          have hq1 := (dn_at fs' t).trans hct
          have htf : t ∉ fs' := by simpa using hct
          cases o with
          | true =>
            refine t_cmp (h := ?_)
            refine e_bcall (hk := (bk_len _)) (hb := bb_len) (hne := bn_len) (h := ?_)
            refine wa_v1 (h := ?_)
            refine c_len (hz := by ((simp only [List.size_toArray, List.length_append, List.length_cons, List.length_nil]); omega)) (h := ?_)
            refine e_int (h := ?_)
            refine gt_int ?_
            refine truthy_b (h := ?_)
            refine if_t (hc := (by kst_p2)) (h := ?_)
            refine x_asgTn (h := ?_)
            (refine' e_nmeth0 ?Fz69 ?lz69 ?vz69 ?pz69 (fun pl R h => gm_list PySem.F.slot_list_pop PySem.F.type_list_pop ?N2z69 ?mz69 h) ?_; (case Fz69 => with_reducible assumption); (case lz69 => with_reducible assumption); (case vz69 => exact rfl); (case pz69 => exact rfl); (case N2z69 => with_reducible assumption); (case mz69 => k_mem))
            refine c_pop (h := ?_); intro _ _ _; k_sweep
            refine as_tup (h := ?_); intro _ _ _; k_sweep; (dsimp only [assignEach, List.map])
            refine a_more (h := ?_)
            refine as_name (h := ?_)
            refine s_var (h := ?_); walk_at "p9"
            refine a_more (h := ?_)
            refine as_name (h := ?_)
            refine s_var (h := ?_); walk_at "p9"
            refine a_none (h := ?_)
            refine x_if (h := ?_)
            refine t_cmp (h := ?_)
            refine e_var (h := ?_)
            refine e_var (h := ?_)
            refine c_in (h := ?_)
            refine truthy_b (h := ?_)
            refine if_f (hc := (by kst_p2)) (h := ?_)
            refine x_if (h := ?_)
            (refine' isTrue_plain ?_ ?hz70; (case hz70 => exact rfl))
            refine e_var (h := ?_)
            refine truthy_b (h := ?_)
            refine if_t (hc := (by kernel_rfl!)) (h := ?_)
            refine x_setsub (h := ?_)
            refine e_bool (h := ?_)
            refine e_var (h := ?_)
            refine e_var (h := ?_)
            refine c_dset (hsz := by (first | omega | (simp only [List.length_map]; omega))) (h := ?_); walk_at "p7"
            refine x_exprN (h := ?_)
            (refine' e_nmeth ?Fz71 ?lz71 ?vz71 ?nz71 ?ez71 ?zz71 ?pz71 (fun pl R h => gm_list PySem.F.slot_list_append PySem.F.type_list_append ?N2z71 ?mz71 h) ?_; (case Fz71 => with_reducible assumption); (case lz71 => with_reducible assumption); (case vz71 => exact rfl); (case nz71 => exact rfl); (case ez71 => exact rfl); (case zz71 => exact rfl); (case pz71 => exact rfl); (case N2z71 => with_reducible assumption); (case mz71 => k_mem))
            refine wa_v1 (h := ?_)
            refine c_append (hz := by ((simp only [List.size_toArray, Array.size_push]); omega)) (h := ?_); intro _ _ _; k_sweep; refine ⟨rfl, ?_⟩
            refine x_cont (h := ?_)
            rename Fr g L _ _ => F3
            rename News g L _ _ => N3
            rename Obj.IsDictOf _ _ (stored _ _ _) => hDd3
            simp only [List.push_toArray] at N3
            rw [dn_snoc hct] at hDd3
            refine hQT2 _ _ (wturn_cont F3 N3 (n' := mu b.T S') ?_ ⟨fs' ++ [t], _, _, _, S', vsS', _, R, _, _, _, rfl, rfl, hR, offR, by rw [ni_snoc]; exact ints_snoc hF, hDd3, hS', hdfs.take wf htf, ?_, rfl, by omega, fun q hq' => List.mem_append_left _ (hfs q hq')⟩)
            · rw [hmu]; dsimp only; simp only [if_true]; omega
            · rcases hrS with h | ⟨b', h⟩
              · exact .inl (List.mem_append_left _ h)
              · rcases List.mem_append.mp h with h | h
                · exact .inr ⟨b', h⟩
                · injection List.mem_singleton.mp h with e1 e2
                  exact .inl (List.mem_append_right _ (by rw [e1]; simp))
          | false =>
            obtain ⟨kk, hkk⟩ := htT.key
            have m1R := hR _ (.tail _ m1)
            have m2R := hR _ (.tail _ m2)
            have m6R := hR _ (.tail _ m6)
            refine t_cmp (h := ?_)
            refine e_bcall (hk := (bk_len _)) (hb := bb_len) (hne := bn_len) (h := ?_)
            refine wa_v1 (h := ?_)
            refine c_len (hz := by ((simp only [List.size_toArray, List.length_append, List.length_cons, List.length_nil]); omega)) (h := ?_)
            refine e_int (h := ?_)
            refine gt_int ?_
            refine truthy_b (h := ?_)
            refine if_t (hc := (by kst_p2)) (h := ?_)
            refine x_asgTn (h := ?_)
            (refine' e_nmeth0 ?Fz72 ?lz72 ?vz72 ?pz72 (fun pl R h => gm_list PySem.F.slot_list_pop PySem.F.type_list_pop ?N2z72 ?mz72 h) ?_; (case Fz72 => with_reducible assumption); (case lz72 => with_reducible assumption); (case vz72 => exact rfl); (case pz72 => exact rfl); (case N2z72 => with_reducible assumption); (case mz72 => k_mem))
            refine c_pop (h := ?_); intro _ _ _; k_sweep
            refine as_tup (h := ?_); intro _ _ _; k_sweep; (dsimp only [assignEach, List.map])
            refine a_more (h := ?_)
            refine as_name (h := ?_)
            refine s_var (h := ?_); walk_at "p9"
            refine a_more (h := ?_)
            refine as_name (h := ?_)
            refine s_var (h := ?_); walk_at "p9"
            refine a_none (h := ?_)
            refine x_if (h := ?_)
            refine t_cmp (h := ?_)
            refine e_var (h := ?_)
            refine e_var (h := ?_)
            refine c_in (h := ?_)
            refine truthy_b (h := ?_)
            refine if_f (hc := (by kst_p2)) (h := ?_)
            refine x_if (h := ?_)
            (refine' isTrue_plain ?_ ?hz73; (case hz73 => exact rfl))
            refine e_var (h := ?_)
            refine truthy_b (h := ?_)
            refine if_f (hc := (by kernel_rfl!)) (h := ?_)
            refine x_exprN (h := ?_)
            (refine' e_nmeth ?Fz74 ?lz74 ?vz74 ?nz74 ?ez74 ?zz74 ?pz74 (fun pl R h => gm_list PySem.F.slot_list_append PySem.F.type_list_append ?N2z74 ?mz74 h) ?_; (case Fz74 => with_reducible assumption); (case lz74 => with_reducible assumption); (case vz74 => exact rfl); (case nz74 => exact rfl); (case ez74 => exact rfl); (case zz74 => exact rfl); (case pz74 => exact rfl); (case N2z74 => with_reducible assumption); (case mz74 => k_mem))
            refine wa_cons (h := ?_)
            refine e_tup (h := ?_)
            refine wa_v (h := ?_)
            refine wa_cons (h := ?_)
            refine e_bool (h := ?_)
            refine wa_nil (h := ?_)
            refine n_tup (h := ?_); walk_at "p1"
            refine wa_nil (h := ?_)
            refine c_append (hz := by ((simp only [List.size_toArray, Array.size_push]); omega)) (h := ?_); intro _ _ _; k_sweep; refine ⟨rfl, ?_⟩
            refine x_for (hs := by (intro v; with_unfolding_all rfl)) (h := ?_)
            refine e_tcall (hk := (bk_reversed _)) (hb := bb_reversed) (hne := bn_reversed) (h := ?_)
            refine wa_cons (h := ?_)
            refine Subscript_ ?_
            refine e_attr (hk := ak_term_args _) (h := ?_)
            refine e_var (h := ?_)
            refine c_args (h := ?_); intro _ _
            refine wa_nil (h := ?_)
            rename IntTup rest _ _ => hcA
            obtain ⟨vsA, nA, hmA, hiA⟩ := hcA
            have hmR := hR _ (.tail _ (hsr _ hmA))
            have hlA : vsA.length ≤ 3 := by rw [hiA.length]; exact (wf.ok t kk hkk htT.1).len3
            have hargs := (wf.ok t kk hkk htT.1).args
            refine c_rv (h := ?_); walk_at "p1"
            rename_i Tt hz1 lTt hz2 cA I2 hz3 F3 N3 lI2
            obtain ⟨q1, q2, q3, q4⟩ := lTt
            obtain ⟨z1, z2, z3, z4, z5⟩ := lI2
            simp only [List.push_toArray] at N3
            have N4 : News g L _ ((I2, rvObj cA ((vsA.length : Int) - 1)) :: (Fd, listOf vsF.toArray nF) :: (Dn, oD) :: (Sk, listOf (vsS' ++ [Value.ref Tt]).toArray (nS + 1 + 1)) :: (Tt, tup [.int (t : Nat) tc, .bool true] 0) :: R) := N3.perm (by
              intro p hp
              simp only [List.mem_cons] at hp ⊢
              rcases hp with hp | hp | hp | hp | hp | hp
              · exact .inl hp
              · exact .inr (.inr (.inl hp))
              · exact .inr (.inr (.inr (.inl hp)))
              · exact .inr (.inr (.inr (.inr (.inl hp))))
              · exact .inr (.inl hp)
              · exact .inr (.inr (.inr (.inr (.inr hp)))))
            have offT : OwnOff ((Tt, tup [.int (t : Nat) tc, .bool true] 0) :: R) [Fd, Dn, Sk] := offs offR (by
              intro x hx
              simp only [List.mem_cons, List.not_mem_nil, or_false] at hx
              rcases hx with rfl | rfl | rfl <;> omega)
            refine p_rev (nl := nA) rfl F3 N4 ?hoff ?hm (by omega) v8 (fun k vals' news' => ∃ vsS nS R' v8, vals' = [some (.ref bk), some (.ref l), some (.ref Fd), some (.ref Dn), some (.int (r : Nat) tr), some (.ref Sk), some (.int (t : Nat) tc), some (.bool false), v8] ∧ news' = (Fd, listOf vsF.toArray nF) :: (Dn, oD) :: (Sk, listOf vsS.toArray nS) :: R' ∧ (∀ p ∈ R, p ∈ R') ∧ OwnOff R' [Fd, Dn, Sk] ∧ Stk R' vsS (S' ++ [(t, true)] ++ todo fs' (kk.2.1.reverse.take k))) ?start ?hJl ?hJn ?turn ?done
            case hoff =>
              intro p hp
              simp only [List.mem_cons] at hp
              rcases hp with hp | hp | hp | hp | hp
              · rw [hp]; exact Nat.ne_of_lt z2
              · rw [hp]; exact Nat.ne_of_lt z3
              · rw [hp]; exact Nat.ne_of_lt z4
              · rw [hp]; exact Nat.ne_of_lt z1
              · exact Nat.ne_of_lt (AllLt.mem z5 p hp)
            case hm => exact .tail _ (.tail _ (.tail _ (.tail _ hmR)))
            case start =>
              refine ⟨_, _, _, _, rfl, rfl, fun p hp => .tail _ hp, offT, ?_⟩
              rw [List.take_zero]
              show Stk _ _ (S' ++ [(t, true)] ++ [])
              rw [List.append_nil]
              exact (Stk.mono hS' fun p hp => .tail _ hp).push (.head _)
            case hJl => rintro k vals' news' ⟨vsS, nS, R', u, rfl, rfl, hRR, _⟩; exact .tail _ (.tail _ (.tail _ (hRR _ hmR)))
            case hJn => rintro k vals' news' ⟨vsS, nS, R', u, rfl, _⟩; rfl
            case turn =>
              clear F3 N3 N4 offT
              rintro k v vals3 news3 h3 tk3 I3 oI3 hv3 ⟨vsS, nS, R', u, rfl, rfl, hRR, offR', hSt⟩ hne3 F3 N3 QT3 hQT3
              dsimp only [List.set_cons_succ, List.set_cons_zero] at F3
              obtain ⟨x, tx, hx, rfl⟩ := ints_at2 (ints_rev hiA) hv3
              have hxa := hargs x (List.mem_reverse.mp (List.mem_of_getElem? hx))
              obtain ⟨xn, rfl⟩ := Int.eq_ofNat_of_zero_le (show 0 ≤ x by have := hxa.1; omega)
              have hlS : vsS.length ≤ 7000 := by
                have h1 := hSt.1
                have h2 := todo_len fs' (kk.2.1.reverse.take k)
                have h3 : (kk.2.1.reverse.take k).length ≤ 3 := by
                  rw [List.length_take, List.length_reverse]
                  have := (wf.ok t kk hkk htT.1).len3
                  omega
                have h4 := hS'.1
                rw [List.length_append, List.length_append, List.length_singleton] at h1
                omega
              have o1 : @Ne Nat Fd I3 := hne3 (Fd, listOf vsF.toArray nF) (.head _)
              have o2 : @Ne Nat Dn I3 := hne3 (Dn, oD) (.tail _ (.head _))
              have o3 : @Ne Nat Sk I3 := hne3 (Sk, listOf vsS.toArray nS) (.tail _ (.tail _ (.head _)))
              have htk := take_snoc hx
              have htd := todo_snoc fs' (kk.2.1.reverse.take k) (xn : Int)
              rw [← htk, Int.toNat_natCast] at htd
              cases hcx : fs'.contains xn with
              | true =>
                have hq2 : (!(valueAt (dn fs') (xn : Int)).isSome) = false := by rw [dn_at, hcx]; rfl
                refine x_if (h := ?_)
                refine t_cmp (h := ?_)
                refine e_var (h := ?_)
                refine e_var (h := ?_)
                refine c_notin (h := ?_)
                refine truthy_b (h := ?_)
                refine if_f (hc := (by kst_p2)) (h := ?_)
                refine x_nil (h := ?_)
                rename Fr g L _ _ => F4
                rename News g L _ _ => N4
                rw [hcx, if_pos rfl, List.append_nil] at htd
                exact hQT3 _ _ (turn_next F4 N4 hne3 ⟨vsS, nS, R', _, rfl, rfl, hRR, offR', by rw [htd]; exact hSt⟩)
              | false =>
                have hq2 : (!(valueAt (dn fs') (xn : Int)).isSome) = true := by rw [dn_at, hcx]; rfl
                refine x_if (h := ?_)
                refine t_cmp (h := ?_)
                refine e_var (h := ?_)
                refine e_var (h := ?_)
                refine c_notin (h := ?_)
                refine truthy_b (h := ?_)
                refine if_t (hc := (by kst_p2)) (h := ?_)
                refine x_exprN (h := ?_)
                (refine' e_nmeth ?Fz75 ?lz75 ?vz75 ?nz75 ?ez75 ?zz75 ?pz75 (fun pl R h => gm_list PySem.F.slot_list_append PySem.F.type_list_append ?N2z75 ?mz75 h) ?_; (case Fz75 => with_reducible assumption); (case lz75 => with_reducible assumption); (case vz75 => exact rfl); (case nz75 => exact rfl); (case ez75 => exact rfl); (case zz75 => exact rfl); (case pz75 => exact rfl); (case N2z75 => with_reducible assumption); (case mz75 => k_mem))
                refine wa_cons (h := ?_)
                refine e_tup (h := ?_)
                refine wa_v (h := ?_)
                refine wa_cons (h := ?_)
                refine e_bool (h := ?_)
                refine wa_nil (h := ?_)
                refine n_tup (h := ?_); walk_at "p1"
                refine wa_nil (h := ?_)
                refine c_append (hz := by ((simp only [List.size_toArray, Array.size_push]); omega)) (h := ?_); intro _ _ _; k_sweep; refine ⟨rfl, ?_⟩
                refine x_nil_thn (h := ?_)
                refine x_nil (h := ?_)
                rename_i Tq hw1 lTq hw2 F4 N4
                obtain ⟨s1, s2, s3, s4, s5⟩ := lTq
                simp only [List.push_toArray] at N4
                rw [hcx, if_neg (by decide)] at htd
                have N5 : News g L _ ((I3, oI3) :: (Fd, listOf vsF.toArray nF) :: (Dn, oD) :: (Sk, listOf (vsS ++ [Value.ref Tq]).toArray (nS + 1)) :: (Tq, tup [.int (xn : Nat) tx, .bool false] 0) :: R') := N4.perm (by
                  intro p hp
                  simp only [List.mem_cons] at hp ⊢
                  rcases hp with hp | hp | hp | hp | hp | hp
                  · exact .inr (.inl hp)
                  · exact .inr (.inr (.inl hp))
                  · exact .inr (.inr (.inr (.inl hp)))
                  · exact .inr (.inr (.inr (.inr (.inl hp))))
                  · exact .inl hp
                  · exact .inr (.inr (.inr (.inr (.inr hp)))))
                refine hQT3 _ _ (turn_next F4 N5 ?_ ⟨vsS ++ [Value.ref Tq], _, (Tq, tup [.int (xn : Nat) tx, .bool false] 0) :: R', _, rfl, rfl, fun p hp => .tail _ (hRR p hp), ?_, ?_⟩)
                · intro p hp
                  simp only [List.mem_cons] at hp
                  rcases hp with hp | hp | hp | hp | hp
                  · rw [hp]; exact o1
                  · rw [hp]; exact o2
                  · rw [hp]; exact o3
                  · rw [hp]; show @Ne Nat Tq I3; omega
                  · exact hne3 p (.tail _ (.tail _ (.tail _ hp)))
                · refine offs offR' ?_
                  intro x hx
                  simp only [List.mem_cons, List.not_mem_nil, or_false] at hx
                  rcases hx with rfl | rfl | rfl <;> omega
                · rw [htd, ← List.append_assoc]
                  exact (hSt.mono fun p hp => .tail _ hp).push (.head _)
            case done =>
              clear F3 N3 N4 offT
              rintro vals3 news3 h3 tk3 ⟨vsS, nS, R', u, rfl, rfl, hRR, offR', hSt⟩ F3 N3
              have hlk : vsA.length = kk.2.1.reverse.length := by rw [hiA.length, List.length_reverse]
              rw [hlk, List.take_length] at hSt
              have hlt := open_mu (S := S') (fs := fs') wf hkk htT.1
              refine x_nil (hQT2 _ _ (wturn_next F3 N3 hlt ⟨fs', vsF, nF, oD, _, vsS, nS, R', _, _, _, rfl, rfl, fun p hp => hRR p (hR p hp), offR', hF, hDd, hSt, hdfs.open wf hkk, ?_, rfl, by omega, hfs⟩))
              rcases hrS with h | ⟨b', h⟩
              · exact .inl h
              · rcases List.mem_append.mp h with h | h
                · exact .inr ⟨b', List.mem_append_left _ (List.mem_append_left _ h)⟩
                · injection List.mem_singleton.mp h with e1 e2
                  exact .inr ⟨true, List.mem_append_left _ (List.mem_append_right _ (by rw [e1]; simp))⟩
/- MdA -/
set_option maxHeartbeats 8000000 in
theorem plain_does (w : World) {D U : Nat} (hD : D < 700) (hU : U < 1500) {bk : Addr} {t0 : Tok} {news : Led} :
  Does w 792 [.ref bk, .int 0 t0] D U news (fun v news' => v = .bool false ∧ news' = news) := by
  refine' does_intro' (names := [Str.ofString "bank", Str.ofString "s"]) (k := 0) (vals := [some (.ref bk), some (.int 0 t0)]) ?hvals ?ho ?hcd ?hD ?hbind ?hall ?hnd ?hco ?hgen ?hk ?hcell ?body
  tb_start
  intro K A0 base mean mg mb g L h gs dr os tk0 Q lv B X T F N lt hdp hun hq
  have hd1 := Nat.lt_of_le_of_lt hdp (Nat.add_lt_add_right hD 1)
  have hu1 := Nat.lt_of_le_of_lt hun (Nat.add_lt_add_right hU 3)
  show wpAny _ _ (execs (_ :: _) _) _ _ _
  have v0 := lv 0 (Str.ofString "bank") rfl
  have v1 := lv 1 (Str.ofString "s") rfl
  clear lv
  refine x_if (h := ?_)
  refine t_cmp (h := ?_)
  refine e_var (h := ?_)
  refine e_globI (hk := (gk_BOOL _)) (h := ?_); intro _
  refine eq_int ?_
  refine truthy_b (h := ?_)
  refine if_t (hc := (by kernel_rfl!)) (h := ?_)
  refine x_ret (h := ?_)
  refine e_bool (h := ?_)
  all_goals exact hq _ _ (back (by assumption) (by assumption) rfl ⟨rfl, rfl⟩)
/- MdB -/
set_option maxHeartbeats 8000000 in
theorem other_does (w : World) {D U : Nat} (hD : D < 650) (hU : U < 1400) {a : BA} {b : BS} {rest news : Led} {md : Addr} {ρ : Nat → Bool} {x : MD} {n : Nat} {tn : Tok}
  (hA : a.Ok) (hB : Bank w rest b) (hlen : b.T.length ≤ 1000) (hsub : ∀ p ∈ BL a b ++ rest, p ∈ news) (hM : MOk w a.bk md ρ news x) (hn : n < 3) (hsw : ∃ u0 u1 u2 nz, a.frO = listOf [Value.int 0 u0, .int 0 u1, .int 0 u2].toArray nz) :
  Does w 841 [.ref md, .int n tn] D U news (fun v news' => v = .bool false ∧ news' = news) := by
  refine' does_intro' (names := [Str.ofString "self", Str.ofString "f"]) (k := 0) (vals := [some (.ref md), some (.int n tn)]) ?hvals ?ho ?hcd ?hD ?hbind ?hall ?hnd ?hco ?hgen ?hk ?hcell ?body
  tb_start
  intro K A0 base mean mg mb g L h gs dr os tk0 Q lv B X T F N lt hdp hun hq
  have hd1 := Nat.lt_of_le_of_lt hdp (Nat.add_lt_add_right hD 1)
  have hu1 := Nat.lt_of_le_of_lt hun (Nat.add_lt_add_right hU 3)
  show wpAny _ _ (execs (_ :: _) _) _ _ _
  have v0 := lv 0 (Str.ofString "self") rfl
  have v1 := lv 1 (Str.ofString "f") rfl
  clear lv
  have hno := hA.no "fun_result" (by decide)
  have hbk := hsub _ (.head _)
  have hbd := hsub _ (.tail _ (.head _))
  obtain ⟨mdd, mes, mn, tb, ot, oT, oO, t0, t1, t2, o0, o1, o2, c0, c1, c2⟩ := x
  obtain ⟨y1, y2, gb, gt, go, n1, n2, n3, y3, hT, lT, y4, hO, lO, y5, y6, y7, h0, h1, h2, l0, l1, l2⟩ := hM
  dsimp only at *
  refine x_if (h := ?_)
  refine t_cmp (h := ?_)
  refine e_var (h := ?_)
  refine e_attr (hk := am_others _) (h := ?_)
  refine c_in (h := ?_)
  refine truthy_b (h := ?_)
  refine if_f (hc := (by kernel_rfl!)) (h := ?_)
  refine x_ret (h := ?_)
  refine e_gcall (hk := fk_plain_value _) (h := ?_)
  refine wa_cons (h := ?_)
  refine e_attr (hk := am_bank _) (h := ?_)
  refine wa_cons (h := ?_)
  refine e_amcall (hk := am_bank _) (hk2 := mk_fun_result _) (h := ?_)
  refine wa_v1 (h := ?_)
  refine ⟨In.of (by with_reducible assumption) (by with_reducible assumption), ?_⟩
  (refine' Does.use' (funres_does _ ?hDz66 ?hUz66 ?hAz66 ?hBz66 ?hlenz66 ?hsubz66 ?hnz66 ?hswz66) ?haz66 ?Bz66 ?Xz66 ?Tz66 ?Fz66 ?Nz66 ?hkz66 (Nat.le_refl _) (Nat.le_refl _) ?_; (case haz66 => exact rfl); (case hAz66 => assumption); (case hBz66 => assumption); (case hsubz66 => assumption); (case hswz66 => assumption); (case hDz66 => omega); (case hUz66 => omega); (case hlenz66 => omega); (case hnz66 => omega); (case Bz66 => assumption); (case Xz66 => assumption); (case Tz66 => assumption); (case Fz66 => assumption); (case Nz66 => assumption); (case hkz66 => exact rfl)); rintro _ _ _ _ _ _ ⟨⟨_, rfl⟩, rfl⟩; k_sweep
  refine wa_nil (h := ?_)
  refine ⟨In.of (by with_reducible assumption) (by with_reducible assumption), ?_⟩
  (refine' Does.use' (plain_does _ ?hDz67 ?hUz67) ?haz67 ?Bz67 ?Xz67 ?Tz67 ?Fz67 ?Nz67 ?hkz67 (Nat.le_refl _) (Nat.le_refl _) ?_; (case haz67 => exact rfl); (case hDz67 => omega); (case hUz67 => omega); (case Bz67 => assumption); (case Xz67 => assumption); (case Tz67 => assumption); (case Fz67 => assumption); (case Nz67 => assumption); (case hkz67 => exact rfl)); rintro _ _ _ _ _ _ ⟨rfl, rfl⟩; k_sweep
  all_goals exact hq _ _ (back (by assumption) (by assumption) rfl ⟨rfl, rfl⟩)
/- MdC -/
set_option maxHeartbeats 8000000 in
theorem call_does (w : World) {D U : Nat} (hD : D < 640) (hU : U < 1390) {a : BA} {b : BS} {rest news : Led} {md c : Addr} {ρ : Nat → Bool} {x : MD} {n : Nat} {tn : Tok}
  (hA : a.Ok) (hB : Bank w rest b) (hlen : b.T.length ≤ 1000) (hsub : ∀ p ∈ BL a b ++ rest, p ∈ news) (hM : MOk w a.bk md ρ news x) (hn : n < 3) (hsw : ∃ u0 u1 u2 nz, a.frO = listOf [Value.int 0 u0, .int 0 u1, .int 0 u2].toArray nz) (hc : IntTup news [] c) :
  Does w 848 [.ref md, .int n tn, .ref c] D U news (fun v news' => v = .bool (ρ n) ∧ news' = news) := by
  refine' does_intro' (names := [Str.ofString "self", Str.ofString "f", Str.ofString "args"]) (k := 0) (vals := [some (.ref md), some (.int n tn), some (.ref c)]) ?hvals ?ho ?hcd ?hD ?hbind ?hall ?hnd ?hco ?hgen ?hk ?hcell ?body
  tb_start
  intro K A0 base mean mg mb g L h gs dr os tk0 Q lv B X T F N lt hdp hun hq
  have hd1 := Nat.lt_of_le_of_lt hdp (Nat.add_lt_add_right hD 1)
  have hu1 := Nat.lt_of_le_of_lt hun (Nat.add_lt_add_right hU 3)
  show wpAny _ _ (execs (_ :: _) _) _ _ _
  have v0 := lv 0 (Str.ofString "self") rfl
  have v1 := lv 1 (Str.ofString "f") rfl
  have v2 := lv 2 (Str.ofString "args") rfl
  clear lv
  have hM' := hM
  obtain ⟨mdd, mes, mn, tb, ot, oT, oO, t0, t1, t2, o0, o1, o2, c0, c1, c2⟩ := x
  obtain ⟨y1, y2, gb, gt, go, n1, n2, n3, y3, hT, lT, y4, hO, lO, y5, y6, y7, h0, h1, h2, l0, l1, l2⟩ := hM
  dsimp only at y1 y2 gb gt go n1 n2 n3 y3 hT lT y4 hO lO y5 y6 y7 h0 h1 h2 l0 l1 l2
  obtain rfl | rfl | rfl : n = 0 ∨ n = 1 ∨ n = 2 := by omega
  focus
    refine x_ret (h := ?_)
    refine e_cmeth (h := ?_)
    (refine' e_ameth ?Fz53 ?Nz53 ?Xz53 ?lz53 ?vz53 ?oz53 ?dz53 ?az53 ?kz53 ?nz53 ?ez53 ?zz53 ?pz53 (fun pl R h => gm_dict PySem.F.slot_dict_get PySem.F.type_dict_get ?N2z53 ?mz53 ?Hz53 h) ?_; (case Fz53 => with_reducible assumption); (case Nz53 => with_reducible assumption); (case Xz53 => with_reducible assumption); (case lz53 => with_reducible assumption); (case vz53 => exact rfl); (case oz53 => k_mem); (case dz53 => k_mem); (case az53 => with_reducible assumption); (case kz53 => exact am_tables _); (case nz53 => exact rfl); (case ez53 => exact rfl); (case zz53 => exact rfl); (case pz53 => exact rfl); (case N2z53 => with_reducible assumption); (case mz53 => k_mem); (case Hz53 => with_reducible assumption))
    refine wa_v (h := ?_)
    refine wa_cons (h := ?_)
    refine n_dict (h := ?_); walk_at "p3"
    refine wa_nil (h := ?_)
    refine c_getR (h := ?_)
    refine recv_T (h := ?_)
    refine wa_v (h := ?_)
    refine wa_cons (h := ?_)
    refine e_mcall1 (hk := mm_other _) (h := ?_)
    (refine' Does.use' (other_does _ ?hDz54 ?hUz54 ?hAz54 ?hBz54 ?hlenz54 ?hsubz54 (MOk.mono ?hMz54 ?hMsz54) ?hnz54 ?hswz54) ?haz54 ?Bz54 ?Xz54 ?Tz54 ?Fz54 ?Nz54 ?hkz54 (Nat.le_refl _) (Nat.le_refl _) ?_; (case Nz54 => assumption); (case haz54 => exact rfl); (case hAz54 => assumption); (case hBz54 => assumption); (case hMz54 => assumption); (case hMsz54 => kst_all); (case hsubz54 => kst_all); (case hswz54 => assumption); (case hDz54 => omega); (case hUz54 => omega); (case hlenz54 => omega); (case hnz54 => omega); (case Bz54 => assumption); (case Xz54 => assumption); (case Tz54 => assumption); (case Fz54 => assumption); (case hkz54 => exact rfl)); rintro _ _ _ _ _ _ ⟨rfl, rfl⟩; k_sweep
    refine wa_nil (h := ?_)
    refine c_getT' (hk := by (exact IntTup.mono (by assumption) (by kst_all))) (h := ?_); intro _
  rotate_left
  focus
    refine x_ret (h := ?_)
    refine e_cmeth (h := ?_)
    (refine' e_ameth ?Fz55 ?Nz55 ?Xz55 ?lz55 ?vz55 ?oz55 ?dz55 ?az55 ?kz55 ?nz55 ?ez55 ?zz55 ?pz55 (fun pl R h => gm_dict PySem.F.slot_dict_get PySem.F.type_dict_get ?N2z55 ?mz55 ?Hz55 h) ?_; (case Fz55 => with_reducible assumption); (case Nz55 => with_reducible assumption); (case Xz55 => with_reducible assumption); (case lz55 => with_reducible assumption); (case vz55 => exact rfl); (case oz55 => k_mem); (case dz55 => k_mem); (case az55 => with_reducible assumption); (case kz55 => exact am_tables _); (case nz55 => exact rfl); (case ez55 => exact rfl); (case zz55 => exact rfl); (case pz55 => exact rfl); (case N2z55 => with_reducible assumption); (case mz55 => k_mem); (case Hz55 => with_reducible assumption))
    refine wa_v (h := ?_)
    refine wa_cons (h := ?_)
    refine n_dict (h := ?_); walk_at "p3"
    refine wa_nil (h := ?_)
    refine c_getR (h := ?_)
    refine recv_T (h := ?_)
    refine wa_v (h := ?_)
    refine wa_cons (h := ?_)
    refine e_mcall1 (hk := mm_other _) (h := ?_)
    (refine' Does.use' (other_does _ ?hDz56 ?hUz56 ?hAz56 ?hBz56 ?hlenz56 ?hsubz56 (MOk.mono ?hMz56 ?hMsz56) ?hnz56 ?hswz56) ?haz56 ?Bz56 ?Xz56 ?Tz56 ?Fz56 ?Nz56 ?hkz56 (Nat.le_refl _) (Nat.le_refl _) ?_; (case Nz56 => assumption); (case haz56 => exact rfl); (case hAz56 => assumption); (case hBz56 => assumption); (case hMz56 => assumption); (case hMsz56 => kst_all); (case hsubz56 => kst_all); (case hswz56 => assumption); (case hDz56 => omega); (case hUz56 => omega); (case hlenz56 => omega); (case hnz56 => omega); (case Bz56 => assumption); (case Xz56 => assumption); (case Tz56 => assumption); (case Fz56 => assumption); (case hkz56 => exact rfl)); rintro _ _ _ _ _ _ ⟨rfl, rfl⟩; k_sweep
    refine wa_nil (h := ?_)
    refine c_getT' (hk := by (exact IntTup.mono (by assumption) (by kst_all))) (h := ?_); intro _
  rotate_left
  focus
    refine x_ret (h := ?_)
    refine e_cmeth (h := ?_)
    (refine' e_ameth ?Fz57 ?Nz57 ?Xz57 ?lz57 ?vz57 ?oz57 ?dz57 ?az57 ?kz57 ?nz57 ?ez57 ?zz57 ?pz57 (fun pl R h => gm_dict PySem.F.slot_dict_get PySem.F.type_dict_get ?N2z57 ?mz57 ?Hz57 h) ?_; (case Fz57 => with_reducible assumption); (case Nz57 => with_reducible assumption); (case Xz57 => with_reducible assumption); (case lz57 => with_reducible assumption); (case vz57 => exact rfl); (case oz57 => k_mem); (case dz57 => k_mem); (case az57 => with_reducible assumption); (case kz57 => exact am_tables _); (case nz57 => exact rfl); (case ez57 => exact rfl); (case zz57 => exact rfl); (case pz57 => exact rfl); (case N2z57 => with_reducible assumption); (case mz57 => k_mem); (case Hz57 => with_reducible assumption))
    refine wa_v (h := ?_)
    refine wa_cons (h := ?_)
    refine n_dict (h := ?_); walk_at "p3"
    refine wa_nil (h := ?_)
    refine c_getR (h := ?_)
    refine recv_T (h := ?_)
    refine wa_v (h := ?_)
    refine wa_cons (h := ?_)
    refine e_mcall1 (hk := mm_other _) (h := ?_)
    (refine' Does.use' (other_does _ ?hDz58 ?hUz58 ?hAz58 ?hBz58 ?hlenz58 ?hsubz58 (MOk.mono ?hMz58 ?hMsz58) ?hnz58 ?hswz58) ?haz58 ?Bz58 ?Xz58 ?Tz58 ?Fz58 ?Nz58 ?hkz58 (Nat.le_refl _) (Nat.le_refl _) ?_; (case Nz58 => assumption); (case haz58 => exact rfl); (case hAz58 => assumption); (case hBz58 => assumption); (case hMz58 => assumption); (case hMsz58 => kst_all); (case hsubz58 => kst_all); (case hswz58 => assumption); (case hDz58 => omega); (case hUz58 => omega); (case hlenz58 => omega); (case hnz58 => omega); (case Bz58 => assumption); (case Xz58 => assumption); (case Tz58 => assumption); (case Fz58 => assumption); (case hkz58 => exact rfl)); rintro _ _ _ _ _ _ ⟨rfl, rfl⟩; k_sweep
    refine wa_nil (h := ?_)
    refine c_getT' (hk := by (exact IntTup.mono (by assumption) (by kst_all))) (h := ?_); intro _
  rotate_left
  all_goals exact hq _ _ (back (by assumption) (by rename News _ _ _ _ => N9; exact N9.perm (by kst_all)) rfl ⟨rfl, rfl⟩)
/- CnA -/
set_option maxHeartbeats 8000000 in
theorem connected_does (w : World) {D U : Nat} (hD : D < 700) (hU : U < 1500) {news : Led} {l : Addr} {oS : Obj} {bs : List Bool} {op : Str} {t0 : Tok} {nl : Nat}
  (hl : (l, oS) ∈ news) (ho : oS = listOf (bs.map Value.bool).toArray nl ∨ oS = tup (bs.map Value.bool) nl) (hE : Enough op bs) :
  Does w 897 [.str op t0, .ref l] D U news (fun v news' => v = ov (conn op bs) ∧ news' = news) := by
  refine' does_intro' (names := [Str.ofString "op", Str.ofString "values"]) (k := 0) (vals := [some (.str op t0), some (.ref l)]) ?hvals ?ho ?hcd ?hD ?hbind ?hall ?hnd ?hco ?hgen ?hk ?hcell ?body
  tb_start
  intro K A0 base mean mg mb g L h gs dr os tk0 Q lv B X T F N lt hdp hun hq
  have hd1 := Nat.lt_of_le_of_lt hdp (Nat.add_lt_add_right hD 1)
  have hu1 := Nat.lt_of_le_of_lt hun (Nat.add_lt_add_right hU 3)
  show wpAny _ _ (execs (_ :: _) _) _ _ _
  have v0 := lv 0 (Str.ofString "op") rfl
  have v1 := lv 1 (Str.ofString "values") rfl
  clear lv
  by_cases h1 : op = Str.ofString "not"
  · subst h1
    have h2 := hE.n rfl
    obtain ⟨b0, r, rfl⟩ : ∃ b0 r, bs = b0 :: r := by cases bs with | nil => simp at h2 | cons a r => exact ⟨a, r, rfl⟩
    rcases ho with rfl | rfl
    focus
      refine x_ifs_t (hc := by kernel_rfl!) (h := ?_)
      refine x_ret (h := ?_)
      refine wpAny_UnaryOp ?_
      refine Subscript_ ?_
      refine e_var (h := ?_)
      refine e_int (h := ?_)
      refine c_itemL (h := ?_)
      refine PyProof.Rows.not_of ?_
      refine truthy_b (h := ?_)
    rotate_left
    focus
      refine x_ifs_t (hc := by kernel_rfl!) (h := ?_)
      refine x_ret (h := ?_)
      refine wpAny_UnaryOp ?_
      refine Subscript_ ?_
      refine e_var (h := ?_)
      refine e_int (h := ?_)
      refine c_itemT (h := ?_)
      refine PyProof.Rows.not_of ?_
      refine truthy_b (h := ?_)
    rotate_left
    all_goals exact hq _ _ (back (by assumption) (by assumption) rfl ⟨rfl, rfl⟩)
  by_cases h2 : op = Str.ofString "and"
  · subst h2
    refine x_ifs_f (hc := by kernel_rfl!) (h := ?_)
    refine x_ifs_t (hc := by kernel_rfl!) (h := ?_)
    refine x_ret (h := ?_)
    refine e_bcall (hk := (bk_all _)) (hb := bb_all) (hne := bn_all) (h := ?_)
    refine wa_v1 (h := ?_)
    refine c_all (ho := by (first | (exact Or.inl rfl) | (exact Or.inr rfl) | assumption)) (h := ?_); intro _ _ _ _; k_sweep
    all_goals exact hq _ _ (back (by assumption) (by assumption) rfl ⟨rfl, rfl⟩)
  by_cases h3 : op = Str.ofString "or"
  · subst h3
    refine x_ifs_f (hc := by kernel_rfl!) (h := ?_)
    refine x_ifs_f (hc := by kernel_rfl!) (h := ?_)
    refine x_ifs_t (hc := by kernel_rfl!) (h := ?_)
    refine x_ret (h := ?_)
    refine e_bcall (hk := (bk_any _)) (hb := bb_any) (hne := bn_any) (h := ?_)
    refine wa_v1 (h := ?_)
    refine c_any (ho := by (first | (exact Or.inl rfl) | (exact Or.inr rfl) | assumption)) (h := ?_); intro _ _ _ _; k_sweep
    all_goals exact hq _ _ (back (by assumption) (by assumption) rfl ⟨rfl, rfl⟩)
  by_cases h4 : op = Str.ofString "xor"
  · subst h4
    have h2 := hE.x rfl
    obtain ⟨b0, b1, r, rfl⟩ : ∃ b0 b1 r, bs = b0 :: b1 :: r := by
      match bs, h2 with
      | a :: b :: r, _ => exact ⟨a, b, r, rfl⟩
    rcases ho with rfl | rfl
    focus
      refine x_ifs_f (hc := by kernel_rfl!) (h := ?_)
      refine x_ifs_f (hc := by kernel_rfl!) (h := ?_)
      refine x_ifs_f (hc := by kernel_rfl!) (h := ?_)
      refine x_ifs_t (hc := by kernel_rfl!) (h := ?_)
      refine x_ret (h := ?_)
      refine e_cmp (h := ?_)
      refine Subscript_ ?_
      refine e_var (h := ?_)
      refine e_int (h := ?_)
      refine c_itemL (h := ?_)
      refine Subscript_ ?_
      refine e_var (h := ?_)
      refine e_int (h := ?_)
      refine c_itemL (h := ?_)
      refine ne_bool ?_
    rotate_left
    focus
      refine x_ifs_f (hc := by kernel_rfl!) (h := ?_)
      refine x_ifs_f (hc := by kernel_rfl!) (h := ?_)
      refine x_ifs_f (hc := by kernel_rfl!) (h := ?_)
      refine x_ifs_t (hc := by kernel_rfl!) (h := ?_)
      refine x_ret (h := ?_)
      refine e_cmp (h := ?_)
      refine Subscript_ ?_
      refine e_var (h := ?_)
      refine e_int (h := ?_)
      refine c_itemT (h := ?_)
      refine Subscript_ ?_
      refine e_var (h := ?_)
      refine e_int (h := ?_)
      refine c_itemT (h := ?_)
      refine ne_bool ?_
    rotate_left
    all_goals exact hq _ _ (back (by assumption) (by assumption) rfl ⟨rfl, rfl⟩)
  by_cases h5 : op = Str.ofString "=>"
  · subst h5
    have h2 := hE.i rfl
    obtain ⟨b0, b1, r, rfl⟩ : ∃ b0 b1 r, bs = b0 :: b1 :: r := by
      match bs, h2 with
      | a :: b :: r, _ => exact ⟨a, b, r, rfl⟩
    rcases ho with rfl | rfl
    all_goals cases b0
    focus
      refine x_ifs_f (hc := by kernel_rfl!) (h := ?_)
      refine x_ifs_f (hc := by kernel_rfl!) (h := ?_)
      refine x_ifs_f (hc := by kernel_rfl!) (h := ?_)
      refine x_ifs_f (hc := by kernel_rfl!) (h := ?_)
      refine x_ifs_t (hc := by kernel_rfl!) (h := ?_)
      refine x_ret (h := ?_)
      refine BoolOp_or ?_
      refine wpAny_UnaryOp ?_
      refine Subscript_ ?_
      refine e_var (h := ?_)
      refine e_int (h := ?_)
      refine c_itemL (h := ?_)
      refine PyProof.Rows.not_of ?_
      refine truthy_b (h := ?_)
      refine truthy_b (h := ?_)
      refine if_t (hc := (by kernel_rfl!)) (h := ?_)
    rotate_left
    focus
      refine x_ifs_f (hc := by kernel_rfl!) (h := ?_)
      refine x_ifs_f (hc := by kernel_rfl!) (h := ?_)
      refine x_ifs_f (hc := by kernel_rfl!) (h := ?_)
      refine x_ifs_f (hc := by kernel_rfl!) (h := ?_)
      refine x_ifs_t (hc := by kernel_rfl!) (h := ?_)
      refine x_ret (h := ?_)
      refine BoolOp_or ?_
      refine wpAny_UnaryOp ?_
      refine Subscript_ ?_
      refine e_var (h := ?_)
      refine e_int (h := ?_)
      refine c_itemL (h := ?_)
      refine PyProof.Rows.not_of ?_
      refine truthy_b (h := ?_)
      refine truthy_b (h := ?_)
      refine if_f (hc := (by kernel_rfl!)) (h := ?_)
      refine BoolOp_one ?_
      refine Subscript_ ?_
      refine e_var (h := ?_)
      refine e_int (h := ?_)
      refine c_itemL (h := ?_)
    rotate_left
    focus
      refine x_ifs_f (hc := by kernel_rfl!) (h := ?_)
      refine x_ifs_f (hc := by kernel_rfl!) (h := ?_)
      refine x_ifs_f (hc := by kernel_rfl!) (h := ?_)
      refine x_ifs_f (hc := by kernel_rfl!) (h := ?_)
      refine x_ifs_t (hc := by kernel_rfl!) (h := ?_)
      refine x_ret (h := ?_)
      refine BoolOp_or ?_
      refine wpAny_UnaryOp ?_
      refine Subscript_ ?_
      refine e_var (h := ?_)
      refine e_int (h := ?_)
      refine c_itemT (h := ?_)
      refine PyProof.Rows.not_of ?_
      refine truthy_b (h := ?_)
      refine truthy_b (h := ?_)
      refine if_t (hc := (by kernel_rfl!)) (h := ?_)
    rotate_left
    focus
      refine x_ifs_f (hc := by kernel_rfl!) (h := ?_)
      refine x_ifs_f (hc := by kernel_rfl!) (h := ?_)
      refine x_ifs_f (hc := by kernel_rfl!) (h := ?_)
      refine x_ifs_f (hc := by kernel_rfl!) (h := ?_)
      refine x_ifs_t (hc := by kernel_rfl!) (h := ?_)
      refine x_ret (h := ?_)
      refine BoolOp_or ?_
      refine wpAny_UnaryOp ?_
      refine Subscript_ ?_
      refine e_var (h := ?_)
      refine e_int (h := ?_)
      refine c_itemT (h := ?_)
      refine PyProof.Rows.not_of ?_
      refine truthy_b (h := ?_)
      refine truthy_b (h := ?_)
      refine if_f (hc := (by kernel_rfl!)) (h := ?_)
      refine BoolOp_one ?_
      refine Subscript_ ?_
      refine e_var (h := ?_)
      refine e_int (h := ?_)
      refine c_itemT (h := ?_)
    rotate_left
    all_goals exact hq _ _ (back (by assumption) (by assumption) rfl ⟨rfl, rfl⟩)
  have e1 : (op == Str.ofString "not") = false := by rw [beq_eq_false_iff_ne]; exact h1
  have e2 : (op == Str.ofString "and") = false := by rw [beq_eq_false_iff_ne]; exact h2
  have e3 : (op == Str.ofString "or") = false := by rw [beq_eq_false_iff_ne]; exact h3
  have e4 : (op == Str.ofString "xor") = false := by rw [beq_eq_false_iff_ne]; exact h4
  have e5 : (op == Str.ofString "=>") = false := by rw [beq_eq_false_iff_ne]; exact h5
  rw [conn_none h1 h2 h3 h4 h5] at hq
  refine x_ifs_f (hc := by kst_p2) (h := ?_)
  refine x_ifs_f (hc := by kst_p2) (h := ?_)
  refine x_ifs_f (hc := by kst_p2) (h := ?_)
  refine x_ifs_f (hc := by kst_p2) (h := ?_)
  refine x_ifs_f (hc := by kst_p2) (h := ?_)
  refine x_ret (h := ?_)
  refine wpAny_Constant_none ?_
  all_goals exact hq _ _ (back (by assumption) (by assumption) rfl ⟨rfl, rfl⟩)
/- CnB -/
set_option maxHeartbeats 8000000 in
theorem worth_does (w : World) {D U : Nat} (hD : D < 700) (hU : U < 1500) {news : Led} {l : Addr} {bs : List Bool} {op : Str} {t0 : Tok} {nl : Nat}
  {vs : List Value} (hl : (l, listOf vs.toArray nl) ∈ news) (hi : IntsAre vs (bs.map bz)) (hlen : bs.length ≤ 1000) (hE : Enough op bs) :
  Does w 928 [.str op t0, .ref l] D U news (fun v news' => WV (conn op bs) v ∧ news' = news) := by
  refine' does_intro' (names := [Str.ofString "word", Str.ofString "lot"]) (k := 0) (vals := [some (.str op t0), some (.ref l)]) ?hvals ?ho ?hcd ?hD ?hbind ?hall ?hnd ?hco ?hgen ?hk ?hcell ?body
  tb_start
  intro K A0 base mean mg mb g L h gs dr os tk0 Q lv B X T F N lt hdp hun hq
  have hd1 := Nat.lt_of_le_of_lt hdp (Nat.add_lt_add_right hD 1)
  have hu1 := Nat.lt_of_le_of_lt hun (Nat.add_lt_add_right hU 3)
  show wpAny _ _ (execs (_ :: _) _) _ _ _
  have v0 := lv 0 (Str.ofString "word") rfl
  have v1 := lv 1 (Str.ofString "lot") rfl
  clear lv
  have hvs : vs.length ≤ 1000 := by rw [hi.length, List.length_map]; exact hlen
  by_cases h1 : op = Str.ofString "not"
  · subst h1
    have h2 := hE.n rfl
    obtain ⟨b0, r, rfl⟩ : ∃ b0 r, bs = b0 :: r := by cases bs with | nil => simp at h2 | cons a r => exact ⟨a, r, rfl⟩
    obtain ⟨u0, vs, rfl⟩ : ∃ u0 vs', vs = .int (bz b0) u0 :: vs' := by cases hi with | cons _ u h => exact ⟨u, _, rfl⟩
    refine x_ifs_t (hc := by kernel_rfl!) (h := ?_)
    refine x_ret (h := ?_)
    refine wpAny_BinOp ?_
    refine e_int (h := ?_)
    refine Subscript_ ?_
    refine e_var (h := ?_)
    refine e_int (h := ?_)
    refine c_itemL (h := ?_)
    refine o_sub' (h := ?_)
    cases b0
    all_goals exact hq _ _ (back (by assumption) (by assumption) rfl ⟨⟨_, rfl⟩, rfl⟩)
  by_cases h2 : op = Str.ofString "and"
  · subst h2
    refine x_ifs_f (hc := by kernel_rfl!) (h := ?_)
    refine x_ifs_t (hc := by kernel_rfl!) (h := ?_)
    refine x_ret (h := ?_)
    refine e_bcall (hk := (bk_min _)) (hb := bb_min) (hne := bn_min) (h := ?_)
    refine wa_cons (h := ?_)
    refine wpAny_BinOp ?_
    refine e_var (h := ?_)
    refine e_list (h := ?_)
    refine wa_cons (h := ?_)
    refine e_int (h := ?_)
    refine wa_nil (h := ?_)
    refine n_list (h := ?_); walk_at "p1"
    refine c_addl (hz := by ((simp only [List.length_cons, List.length_nil]); omega)) (h := ?_); walk_at "p1"
    refine wa_nil (h := ?_)
    refine c_min (hi := by (exact ints_app1 (by assumption))) (hne := by (simp only [List.length_append, List.length_cons, List.length_nil]; omega)) (h := ?_); intro _ _ _ _ _ _ _ _; k_sweep
    rename _ ∈ List.map bz bs ++ _ => hM1
    rename ∀ a, a ∈ List.map bz bs ++ _ → _ => hM2
    rename News g L _ _ => N9
    rw [bz_min hM1 hM2]
    exact hq _ _ (back (by assumption) (N9.perm fun p hp => .tail _ (.tail _ hp)) rfl ⟨⟨_, rfl⟩, rfl⟩)
  by_cases h3 : op = Str.ofString "or"
  · subst h3
    refine x_ifs_f (hc := by kernel_rfl!) (h := ?_)
    refine x_ifs_f (hc := by kernel_rfl!) (h := ?_)
    refine x_ifs_t (hc := by kernel_rfl!) (h := ?_)
    refine x_ret (h := ?_)
    refine e_bcall (hk := (bk_max _)) (hb := bb_max) (hne := bn_max) (h := ?_)
    refine wa_cons (h := ?_)
    refine wpAny_BinOp ?_
    refine e_var (h := ?_)
    refine e_list (h := ?_)
    refine wa_cons (h := ?_)
    refine e_int (h := ?_)
    refine wa_nil (h := ?_)
    refine n_list (h := ?_); walk_at "p1"
    refine c_addl (hz := by ((simp only [List.length_cons, List.length_nil]); omega)) (h := ?_); walk_at "p1"
    refine wa_nil (h := ?_)
    refine c_max (hi := by (exact ints_app1 (by assumption))) (hne := by (simp only [List.length_append, List.length_cons, List.length_nil]; omega)) (h := ?_); intro _ _ _ _ _ _ _ _; k_sweep
    rename _ ∈ List.map bz bs ++ _ => hM1
    rename ∀ a, a ∈ List.map bz bs ++ _ → _ => hM2
    rename News g L _ _ => N9
    rw [bz_max hM1 hM2]
    exact hq _ _ (back (by assumption) (N9.perm fun p hp => .tail _ (.tail _ hp)) rfl ⟨⟨_, rfl⟩, rfl⟩)
  by_cases h4 : op = Str.ofString "xor"
  · subst h4
    have h2 := hE.x rfl
    obtain ⟨b0, b1, r, rfl⟩ : ∃ b0 b1 r, bs = b0 :: b1 :: r := by
      match bs, h2 with
      | a :: b :: r, _ => exact ⟨a, b, r, rfl⟩
    obtain ⟨u0, u1, vs, rfl⟩ : ∃ u0 u1 vs', vs = .int (bz b0) u0 :: .int (bz b1) u1 :: vs' := by cases hi with | cons _ u h => cases h with | cons _ u2 h => exact ⟨u, u2, _, rfl⟩
    refine x_ifs_f (hc := by kernel_rfl!) (h := ?_)
    refine x_ifs_f (hc := by kernel_rfl!) (h := ?_)
    refine x_ifs_f (hc := by kernel_rfl!) (h := ?_)
    refine x_ifs_t (hc := by kernel_rfl!) (h := ?_)
    refine x_ret (h := ?_)
    refine wpAny_BinOp ?_
    refine wpAny_BinOp ?_
    refine Subscript_ ?_
    refine e_var (h := ?_)
    refine e_int (h := ?_)
    refine c_itemL (h := ?_)
    refine Subscript_ ?_
    refine e_var (h := ?_)
    refine e_int (h := ?_)
    refine c_itemL (h := ?_)
    refine o_add' (h := ?_)
    refine e_int (h := ?_)
    refine o_mod (hb := (by decide)) (h := ?_)
    cases b0 <;> cases b1
    all_goals exact hq _ _ (back (by assumption) (by assumption) rfl ⟨⟨_, rfl⟩, rfl⟩)
  by_cases h5 : op = Str.ofString "=>"
  · subst h5
    have h2 := hE.i rfl
    obtain ⟨b0, b1, r, rfl⟩ : ∃ b0 b1 r, bs = b0 :: b1 :: r := by
      match bs, h2 with
      | a :: b :: r, _ => exact ⟨a, b, r, rfl⟩
    obtain ⟨u0, u1, vs, rfl⟩ : ∃ u0 u1 vs', vs = .int (bz b0) u0 :: .int (bz b1) u1 :: vs' := by cases hi with | cons _ u h => cases h with | cons _ u2 h => exact ⟨u, u2, _, rfl⟩
    refine x_ifs_f (hc := by kernel_rfl!) (h := ?_)
    refine x_ifs_f (hc := by kernel_rfl!) (h := ?_)
    refine x_ifs_f (hc := by kernel_rfl!) (h := ?_)
    refine x_ifs_f (hc := by kernel_rfl!) (h := ?_)
    refine x_ret (h := ?_)
    refine IfExp_ ?_
    refine t_cmp (h := ?_)
    refine e_var (h := ?_)
    refine e_str (h := ?_)
    refine eq_str ?_
    refine truthy_b (h := ?_)
    refine if_t (hc := (by kernel_rfl!)) (h := ?_)
    refine e_tcall (hk := (bk_int _)) (hb := bb_int) (hne := bn_int) (h := ?_)
    refine wa_cons (h := ?_)
    refine e_cmp (h := ?_)
    refine Subscript_ ?_
    refine e_var (h := ?_)
    refine e_int (h := ?_)
    refine c_itemL (h := ?_)
    refine Subscript_ ?_
    refine e_var (h := ?_)
    refine e_int (h := ?_)
    refine c_itemL (h := ?_)
    refine o_le (h := ?_)
    refine wa_nil (h := ?_)
    refine c_intb (h := ?_)
    cases b0 <;> cases b1
    all_goals exact hq _ _ (back (by assumption) (by assumption) rfl ⟨⟨_, rfl⟩, rfl⟩)
  have e1 : (op == Str.ofString "not") = false := by rw [beq_eq_false_iff_ne]; exact h1
  have e2 : (op == Str.ofString "and") = false := by rw [beq_eq_false_iff_ne]; exact h2
  have e3 : (op == Str.ofString "or") = false := by rw [beq_eq_false_iff_ne]; exact h3
  have e4 : (op == Str.ofString "xor") = false := by rw [beq_eq_false_iff_ne]; exact h4
  have e5 : (op == Str.ofString "=>") = false := by rw [beq_eq_false_iff_ne]; exact h5
  rw [conn_none h1 h2 h3 h4 h5] at hq
  refine x_ifs_f (hc := by kst_p2) (h := ?_)
  refine x_ifs_f (hc := by kst_p2) (h := ?_)
  refine x_ifs_f (hc := by kst_p2) (h := ?_)
  refine x_ifs_f (hc := by kst_p2) (h := ?_)
  refine x_ret (h := ?_)
  refine IfExp_ ?_
  refine t_cmp (h := ?_)
  refine e_var (h := ?_)
  refine e_str (h := ?_)
  refine eq_str ?_
  refine truthy_b (h := ?_)
  refine if_f (hc := (by kst_p2)) (h := ?_)
  refine wpAny_Constant_none ?_
  all_goals exact hq _ _ (back (by assumption) (by assumption) rfl ⟨rfl, rfl⟩)
/- Wk -/
set_option maxHeartbeats 8000000 in
theorem worked_does (w : World) {D U : Nat} (hD : D < 650) (hU : U < 1400) {a : BA} {b : BS} {rest news : Led} {n : Nat} {tn : Tok} {k : Key} {l : Addr} {nl : Nat} {ρ f : Nat → Bool}
  (hA : a.Ok) (hB : Bank w rest b) (wf : Wf b.T) (hlen : b.T.length ≤ 1000) (hsub : ∀ p ∈ BL a b ++ rest, p ∈ news) (hsw : ∃ u0 u1 u2 nz, a.swO = listOf [Value.int 0 u0, .int 0 u1, .int 0 u2].toArray nz) (hk : b.T[n]? = some k) (hn1 : 1 ≤ n) (happ : k.1 ≠ Str.ofString "app")
  (hl0 : (l, listOf ((k.2.1.map fun x => f x.toNat).map Value.bool).toArray nl) ∈ news) :
  Does w 902 [.ref a.bk, .int n tn, .ref l] D U news (fun v news' => v = .bool (nv ρ f k) ∧ news' = news) := by
  refine' does_introC (names := [Str.ofString "bank", Str.ofString "t", Str.ofString "op", Str.ofString "order", Str.ofString "found"]) (binds := [(Str.ofString "bank", .ref a.bk), (Str.ofString "t", .int n tn), (Str.ofString "values", .ref l)]) (vals := [some (.ref a.bk), some (.int n tn), none, none, none]) (cl := fun n => [(Str.ofString "values", n)]) ?hcl ?ho ?hcd ?hD ?hbind ?hvals ?hin ?hall ?hnd ?hkinds ?hndc ?hco ?hgen ?hk ?body
  case ho => k_is
  case hcd => k_is
  case hD => omega
  case hcl => exact fun _ => rfl
  case hbind => exact rfl
  case hvals => exact rfl
  case hin => kernel_rfl!
  case hall => kernel_rfl!
  case hnd => decide +kernel
  case hkinds => kernel_rfl!
  case hndc => decide +kernel
  case hco => exact rfl
  case hgen => exact rfl
  case hk => exact rfl
  intro K A0 base mean mg mb g L h gs dr os tk0 Q cells lv B X T F N Y lt hdp hun hq
  have hd1 := Nat.lt_of_le_of_lt hdp (Nat.add_lt_add_right hD 1)
  have hu1 := Nat.lt_of_le_of_lt hun (Nat.add_lt_add_right hU 3)
  show wpAny _ _ (execs (_ :: _) _) _ _ _
  have v0 := lv 0 (Str.ofString "bank") rfl
  have v1 := lv 1 (Str.ofString "t") rfl
  have v2 := lv 2 (Str.ofString "op") rfl
  have v3 := lv 3 (Str.ofString "order") rfl
  have v4 := lv 4 (Str.ofString "found") rfl
  clear lv
  obtain ⟨oc, rfl, hoc0⟩ := Y.one
  have hoc : oc.data = .cell (some (.ref l)) := hoc0.trans (congrArg Data.cell (by kernel_rfl!))
  clear hoc0 Y
  dsimp only [List.cons_append, List.nil_append] at N
  have hl : (l, listOf ((k.2.1.map fun x => f x.toNat).map Value.bool).toArray nl) ∈ (L + 1, oc) :: news := .tail _ hl0
  have q_op : getL (Str.ofString "op") a.es = some none := hA.no "op" (by decide)
  have q_data : getL (Str.ofString "data") a.es = some none := hA.no "data" (by decide)
  have q_width : getL (Str.ofString "width") a.es = some none := hA.no "width" (by decide)
  have q_sort : getL (Str.ofString "sort") a.es = some none := hA.no "sort" (by decide)
  have hbk := hsub _ (.head _)
  have hbd := hsub _ (.tail _ (.head _))
  have hok := wf.ok n k hk hn1
  by_cases h5 : five.any (· == k.1) = true
  · have t1 : [Str.ofString "true", Str.ofString "false"].any (· == k.1) = false := five_nin h5 (by decide)
    have t2 : (k.1 == Str.ofString "num") = false := five_ne h5 (by decide)
    have t3 : (k.1 == Str.ofString "bvnum") = false := five_ne h5 (by decide)
    have t4 : (k.1 == Str.ofString "ite") = false := five_ne h5 (by decide)
    have t5 : (k.1 == Str.ofString "=") = false := five_ne h5 (by decide)
    have t6 : (k.1 == Str.ofString "distinct") = false := five_ne h5 (by decide)
    have t7 : [Str.ofString "<=", Str.ofString "<"].any (· == k.1) = false := five_nin h5 (by decide)
    have hc := conn_node (ρ := ρ) (f := f) hok
    rw [if_pos h5] at hc
    refine x_asg (h := ?_)
    refine e_mcall1 (hk := mk_op _) (h := ?_)
    (refine' Does.use' (op_does _ ?hDz91 ?hUz91 ?hAz91 ?hBz91 ?hlenz91 ?hsubz91 ?htz91) ?haz91 ?Bz91 ?Xz91 ?Tz91 ?Fz91 ?Nz91 ?hkz91 (Nat.le_refl _) (Nat.le_refl _) ?_; (case Nz91 => assumption); (case hAz91 => assumption); (case hBz91 => assumption); (case haz91 => exact rfl); (case hDz91 => omega); (case hUz91 => omega); (case hlenz91 => omega); (case htz91 => assumption); (case hsubz91 => kst_all); (case Bz91 => assumption); (case Xz91 => assumption); (case Tz91 => assumption); (case Fz91 => assumption); (case hkz91 => exact rfl)); rintro _ _ _ _ _ _ ⟨⟨_, rfl⟩, rfl⟩; k_sweep; (try dsimp only)
    refine s_var (h := ?_); walk_at "p9"
    refine x_if (h := ?_)
    refine t_cmp (h := ?_)
    refine e_var (h := ?_)
    refine e_tup (h := ?_)
    refine wa_cons (h := ?_)
    refine e_str (h := ?_)
    refine wa_cons (h := ?_)
    refine e_str (h := ?_)
    refine wa_nil (h := ?_)
    refine n_tup (h := ?_); walk_at "p1"
    refine c_instr (hi := by (repeat constructor)) (b := _) (h := ?_)
    refine truthy_b (h := ?_)
    refine if_f (hc := (by kst_p2)) (h := ?_)
    refine x_ifs_f (hc := by kst_p2) (h := ?_)
    refine x_ifs_f (hc := by kst_p2) (h := ?_)
    refine x_ifs_f (hc := by kst_p2) (h := ?_)
    refine x_if (h := ?_)
    refine t_cmp (h := ?_)
    refine e_mcall1 (hk := mk_width _) (h := ?_)
    (refine' Does.use' (width_does _ ?hDz92 ?hUz92 ?hAz92 ?hBz92 ?hlenz92 ?hsubz92 ?htz92 ?hswz92) ?haz92 ?Bz92 ?Xz92 ?Tz92 ?Fz92 ?Nz92 ?hkz92 (Nat.le_refl _) (Nat.le_refl _) ?_; (case Nz92 => assumption); (case hAz92 => assumption); (case hBz92 => assumption); (case haz92 => exact rfl); (case hDz92 => omega); (case hUz92 => omega); (case hlenz92 => omega); (case htz92 => assumption); (case hswz92 => assumption); (case hsubz92 => kst_all); (case Bz92 => assumption); (case Xz92 => assumption); (case Tz92 => assumption); (case Fz92 => assumption); (case hkz92 => exact rfl)); rintro _ _ _ _ _ _ ⟨⟨_, rfl⟩, rfl⟩; k_sweep
    refine e_int (h := ?_)
    refine gt_int ?_
    refine truthy_b (h := ?_)
    refine if_f (hc := (by kernel_rfl!)) (h := ?_)
    refine x_if (h := ?_)
    refine t_cmp (h := ?_)
    refine e_mcall1 (hk := mk_sort _) (h := ?_)
    (refine' Does.use' (sort_does _ ?hDz93 ?hUz93 ?hAz93 ?hBz93 ?hlenz93 ?hsubz93 ?htz93) ?haz93 ?Bz93 ?Xz93 ?Tz93 ?Fz93 ?Nz93 ?hkz93 (Nat.le_refl _) (Nat.le_refl _) ?_; (case Nz93 => assumption); (case hAz93 => assumption); (case hBz93 => assumption); (case haz93 => exact rfl); (case hDz93 => omega); (case hUz93 => omega); (case hlenz93 => omega); (case htz93 => assumption); (case hsubz93 => kst_all); (case Bz93 => assumption); (case Xz93 => assumption); (case Tz93 => assumption); (case Fz93 => assumption); (case hkz93 => exact rfl)); rintro _ _ _ _ _ _ ⟨⟨_, rfl⟩, rfl⟩; k_sweep
    refine e_globI (hk := (gk_BOOL _)) (h := ?_); intro _
    refine ne_int ?_
    refine truthy_b (h := ?_)
    refine if_f (hc := (by kernel_rfl!)) (h := ?_)
    refine x_ifs_f (hc := by kst_p2) (h := ?_)
    refine x_ifs_f (hc := by kst_p2) (h := ?_)
    refine x_if (h := ?_)
    refine t_cmp (h := ?_)
    refine e_var (h := ?_)
    refine e_tup (h := ?_)
    refine wa_cons (h := ?_)
    refine e_str (h := ?_)
    refine wa_cons (h := ?_)
    refine e_str (h := ?_)
    refine wa_nil (h := ?_)
    refine n_tup (h := ?_); walk_at "p1"
    refine c_instr (hi := by (repeat constructor)) (b := _) (h := ?_)
    refine truthy_b (h := ?_)
    refine if_f (hc := (by kst_p2)) (h := ?_)
    refine x_asg (h := ?_)
    refine e_gcall (hk := fk_connected _) (h := ?_)
    refine wa_v (h := ?_)
    refine wa_cons (h := ?_)
    refine e_cell (h := ?_)
    refine wa_nil (h := ?_)
    refine ⟨In.of (by with_reducible assumption) (by with_reducible assumption), ?_⟩
    rename Fr g L _ _ => F4
    rename News g L _ _ => N4
    refine Does.use' (connected_does w (bs := k.2.1.map fun x => f x.toNat) (by omega) (by omega) (by k_mem) (.inl rfl) (node_enough hok)) rfl B X T F4 N4 rfl (Nat.le_refl _) (Nat.le_refl _) ?_
    rintro v' h' tk' news' F' N' ⟨e1, rfl⟩
    rw [hc] at e1
    dsimp only [ov] at e1
    subst e1
    clear F4 N4
    refine s_var (h := ?_); walk_at "p9"
    refine x_ret (h := ?_)
    refine IfExp_ ?_
    refine t_cmp (h := ?_)
    refine e_var (h := ?_)
    refine PyProof.Rows.Constant_none ?_
    refine PyProof.Rows.is_bool_none ?_
    refine truthy_b (h := ?_)
    refine if_f (hc := (by kernel_rfl!)) (h := ?_)
    refine e_var (h := ?_)
    show Q (Flow.ret _) _
    rename News g L _ _ => N9
    exact hq _ _ (back (by assumption) (N9.perm (by kst_all)) rfl ⟨rfl, rfl⟩)
  cases hok with
  | tru hi =>
    dsimp only at hl hl0
    refine x_asg (h := ?_)
    refine e_mcall1 (hk := mk_op _) (h := ?_)
    (refine' Does.use' (op_does _ ?hDz94 ?hUz94 ?hAz94 ?hBz94 ?hlenz94 ?hsubz94 ?htz94) ?haz94 ?Bz94 ?Xz94 ?Tz94 ?Fz94 ?Nz94 ?hkz94 (Nat.le_refl _) (Nat.le_refl _) ?_; (case Nz94 => assumption); (case hAz94 => assumption); (case hBz94 => assumption); (case haz94 => exact rfl); (case hDz94 => omega); (case hUz94 => omega); (case hlenz94 => omega); (case htz94 => assumption); (case hsubz94 => kst_all); (case Bz94 => assumption); (case Xz94 => assumption); (case Tz94 => assumption); (case Fz94 => assumption); (case hkz94 => exact rfl)); rintro _ _ _ _ _ _ ⟨⟨_, rfl⟩, rfl⟩; k_sweep; (try dsimp only)
    refine s_var (h := ?_); walk_at "p9"
    refine x_if (h := ?_)
    refine t_cmp (h := ?_)
    refine e_var (h := ?_)
    refine e_tup (h := ?_)
    refine wa_cons (h := ?_)
    refine e_str (h := ?_)
    refine wa_cons (h := ?_)
    refine e_str (h := ?_)
    refine wa_nil (h := ?_)
    refine n_tup (h := ?_); walk_at "p1"
    refine c_instr (hi := by (repeat constructor)) (b := _) (h := ?_)
    refine truthy_b (h := ?_)
    refine if_t (hc := (by kernel_rfl!)) (h := ?_)
    refine x_ret (h := ?_)
    refine e_cmp (h := ?_)
    refine e_var (h := ?_)
    refine e_str (h := ?_)
    refine eq_str ?_
    all_goals (show Q (Flow.ret _) _; rename News g L _ _ => N9; refine hq _ _ (back (by assumption) (N9.perm (by kst_all)) rfl ⟨?_, rfl⟩); first | rfl | (simp [nv_tru, nv_fls, nv_and, nv_or]; done) | (rw [nv_ite, hfx]; rfl))
  | fls hi =>
    dsimp only at hl hl0
    refine x_asg (h := ?_)
    refine e_mcall1 (hk := mk_op _) (h := ?_)
    (refine' Does.use' (op_does _ ?hDz95 ?hUz95 ?hAz95 ?hBz95 ?hlenz95 ?hsubz95 ?htz95) ?haz95 ?Bz95 ?Xz95 ?Tz95 ?Fz95 ?Nz95 ?hkz95 (Nat.le_refl _) (Nat.le_refl _) ?_; (case Nz95 => assumption); (case hAz95 => assumption); (case hBz95 => assumption); (case haz95 => exact rfl); (case hDz95 => omega); (case hUz95 => omega); (case hlenz95 => omega); (case htz95 => assumption); (case hsubz95 => kst_all); (case Bz95 => assumption); (case Xz95 => assumption); (case Tz95 => assumption); (case Fz95 => assumption); (case hkz95 => exact rfl)); rintro _ _ _ _ _ _ ⟨⟨_, rfl⟩, rfl⟩; k_sweep; (try dsimp only)
    refine s_var (h := ?_); walk_at "p9"
    refine x_if (h := ?_)
    refine t_cmp (h := ?_)
    refine e_var (h := ?_)
    refine e_tup (h := ?_)
    refine wa_cons (h := ?_)
    refine e_str (h := ?_)
    refine wa_cons (h := ?_)
    refine e_str (h := ?_)
    refine wa_nil (h := ?_)
    refine n_tup (h := ?_); walk_at "p1"
    refine c_instr (hi := by (repeat constructor)) (b := _) (h := ?_)
    refine truthy_b (h := ?_)
    refine if_t (hc := (by kernel_rfl!)) (h := ?_)
    refine x_ret (h := ?_)
    refine e_cmp (h := ?_)
    refine e_var (h := ?_)
    refine e_str (h := ?_)
    refine eq_str ?_
    all_goals (show Q (Flow.ret _) _; rename News g L _ _ => N9; refine hq _ _ (back (by assumption) (N9.perm (by kst_all)) rfl ⟨?_, rfl⟩); first | rfl | (simp [nv_tru, nv_fls, nv_and, nv_or]; done) | (rw [nv_ite, hfx]; rfl))
  | app d hi hd => exact absurd rfl happ
  | not x hx => exact absurd (by dsimp only; decide) h5
  | xor x y hx hy => exact absurd (by dsimp only; decide) h5
  | imp x y hx hy => exact absurd (by dsimp only; decide) h5
  | eqq x y hx hy =>
    dsimp only at hl hl0
    refine x_asg (h := ?_)
    refine e_mcall1 (hk := mk_op _) (h := ?_)
    (refine' Does.use' (op_does _ ?hDz96 ?hUz96 ?hAz96 ?hBz96 ?hlenz96 ?hsubz96 ?htz96) ?haz96 ?Bz96 ?Xz96 ?Tz96 ?Fz96 ?Nz96 ?hkz96 (Nat.le_refl _) (Nat.le_refl _) ?_; (case Nz96 => assumption); (case hAz96 => assumption); (case hBz96 => assumption); (case haz96 => exact rfl); (case hDz96 => omega); (case hUz96 => omega); (case hlenz96 => omega); (case htz96 => assumption); (case hsubz96 => kst_all); (case Bz96 => assumption); (case Xz96 => assumption); (case Tz96 => assumption); (case Fz96 => assumption); (case hkz96 => exact rfl)); rintro _ _ _ _ _ _ ⟨⟨_, rfl⟩, rfl⟩; k_sweep; (try dsimp only)
    refine s_var (h := ?_); walk_at "p9"
    refine x_if (h := ?_)
    refine t_cmp (h := ?_)
    refine e_var (h := ?_)
    refine e_tup (h := ?_)
    refine wa_cons (h := ?_)
    refine e_str (h := ?_)
    refine wa_cons (h := ?_)
    refine e_str (h := ?_)
    refine wa_nil (h := ?_)
    refine n_tup (h := ?_); walk_at "p1"
    refine c_instr (hi := by (repeat constructor)) (b := _) (h := ?_)
    refine truthy_b (h := ?_)
    refine if_f (hc := (by kernel_rfl!)) (h := ?_)
    refine x_ifs_f (hc := by kernel_rfl!) (h := ?_)
    refine x_ifs_f (hc := by kernel_rfl!) (h := ?_)
    refine x_ifs_f (hc := by kernel_rfl!) (h := ?_)
    refine x_if (h := ?_)
    refine t_cmp (h := ?_)
    refine e_mcall1 (hk := mk_width _) (h := ?_)
    (refine' Does.use' (width_does _ ?hDz97 ?hUz97 ?hAz97 ?hBz97 ?hlenz97 ?hsubz97 ?htz97 ?hswz97) ?haz97 ?Bz97 ?Xz97 ?Tz97 ?Fz97 ?Nz97 ?hkz97 (Nat.le_refl _) (Nat.le_refl _) ?_; (case Nz97 => assumption); (case hAz97 => assumption); (case hBz97 => assumption); (case haz97 => exact rfl); (case hDz97 => omega); (case hUz97 => omega); (case hlenz97 => omega); (case htz97 => assumption); (case hswz97 => assumption); (case hsubz97 => kst_all); (case Bz97 => assumption); (case Xz97 => assumption); (case Tz97 => assumption); (case Fz97 => assumption); (case hkz97 => exact rfl)); rintro _ _ _ _ _ _ ⟨⟨_, rfl⟩, rfl⟩; k_sweep
    refine e_int (h := ?_)
    refine gt_int ?_
    refine truthy_b (h := ?_)
    refine if_f (hc := (by kernel_rfl!)) (h := ?_)
    refine x_if (h := ?_)
    refine t_cmp (h := ?_)
    refine e_mcall1 (hk := mk_sort _) (h := ?_)
    (refine' Does.use' (sort_does _ ?hDz98 ?hUz98 ?hAz98 ?hBz98 ?hlenz98 ?hsubz98 ?htz98) ?haz98 ?Bz98 ?Xz98 ?Tz98 ?Fz98 ?Nz98 ?hkz98 (Nat.le_refl _) (Nat.le_refl _) ?_; (case Nz98 => assumption); (case hAz98 => assumption); (case hBz98 => assumption); (case haz98 => exact rfl); (case hDz98 => omega); (case hUz98 => omega); (case hlenz98 => omega); (case htz98 => assumption); (case hsubz98 => kst_all); (case Bz98 => assumption); (case Xz98 => assumption); (case Tz98 => assumption); (case Fz98 => assumption); (case hkz98 => exact rfl)); rintro _ _ _ _ _ _ ⟨⟨_, rfl⟩, rfl⟩; k_sweep
    refine e_globI (hk := (gk_BOOL _)) (h := ?_); intro _
    refine ne_int ?_
    refine truthy_b (h := ?_)
    refine if_f (hc := (by kernel_rfl!)) (h := ?_)
    refine x_ifs_t (hc := by kernel_rfl!) (h := ?_)
    refine x_ret (h := ?_)
    refine e_cmp (h := ?_)
    refine Subscript_ ?_
    refine e_cell (h := ?_)
    refine e_int (h := ?_)
    refine c_itemL (h := ?_)
    refine Subscript_ ?_
    refine e_cell (h := ?_)
    refine e_int (h := ?_)
    refine c_itemL (h := ?_)
    refine eq_bool ?_
    all_goals (show Q (Flow.ret _) _; rename News g L _ _ => N9; refine hq _ _ (back (by assumption) (N9.perm (by kst_all)) rfl ⟨?_, rfl⟩); first | rfl | (simp [nv_tru, nv_fls, nv_and, nv_or]; done) | (rw [nv_ite, hfx]; rfl))
  | dis2 x y hx hy =>
    dsimp only at hl hl0
    have hsz : (once (List.map (fun x : Int => f x.toNat) [x, y]) ((List.map (fun x : Int => f x.toNat) [x, y]).map Value.bool).length).length ≤ 3 := by
      unfold once
      rw [List.length_map]
      exact Nat.le_trans (List.length_filter_le _ _) (Nat.le_trans (List.length_take_le' _ _) (Nat.le_of_ble_eq_true rfl))
    refine x_asg (h := ?_)
    refine e_mcall1 (hk := mk_op _) (h := ?_)
    (refine' Does.use' (op_does _ ?hDz99 ?hUz99 ?hAz99 ?hBz99 ?hlenz99 ?hsubz99 ?htz99) ?haz99 ?Bz99 ?Xz99 ?Tz99 ?Fz99 ?Nz99 ?hkz99 (Nat.le_refl _) (Nat.le_refl _) ?_; (case Nz99 => assumption); (case hAz99 => assumption); (case hBz99 => assumption); (case haz99 => exact rfl); (case hDz99 => omega); (case hUz99 => omega); (case hlenz99 => omega); (case htz99 => assumption); (case hsubz99 => kst_all); (case Bz99 => assumption); (case Xz99 => assumption); (case Tz99 => assumption); (case Fz99 => assumption); (case hkz99 => exact rfl)); rintro _ _ _ _ _ _ ⟨⟨_, rfl⟩, rfl⟩; k_sweep; (try dsimp only)
    refine s_var (h := ?_); walk_at "p9"
    refine x_if (h := ?_)
    refine t_cmp (h := ?_)
    refine e_var (h := ?_)
    refine e_tup (h := ?_)
    refine wa_cons (h := ?_)
    refine e_str (h := ?_)
    refine wa_cons (h := ?_)
    refine e_str (h := ?_)
    refine wa_nil (h := ?_)
    refine n_tup (h := ?_); walk_at "p1"
    refine c_instr (hi := by (repeat constructor)) (b := _) (h := ?_)
    refine truthy_b (h := ?_)
    refine if_f (hc := (by kernel_rfl!)) (h := ?_)
    refine x_ifs_f (hc := by kernel_rfl!) (h := ?_)
    refine x_ifs_f (hc := by kernel_rfl!) (h := ?_)
    refine x_ifs_f (hc := by kernel_rfl!) (h := ?_)
    refine x_if (h := ?_)
    refine t_cmp (h := ?_)
    refine e_mcall1 (hk := mk_width _) (h := ?_)
    (refine' Does.use' (width_does _ ?hDz100 ?hUz100 ?hAz100 ?hBz100 ?hlenz100 ?hsubz100 ?htz100 ?hswz100) ?haz100 ?Bz100 ?Xz100 ?Tz100 ?Fz100 ?Nz100 ?hkz100 (Nat.le_refl _) (Nat.le_refl _) ?_; (case Nz100 => assumption); (case hAz100 => assumption); (case hBz100 => assumption); (case haz100 => exact rfl); (case hDz100 => omega); (case hUz100 => omega); (case hlenz100 => omega); (case htz100 => assumption); (case hswz100 => assumption); (case hsubz100 => kst_all); (case Bz100 => assumption); (case Xz100 => assumption); (case Tz100 => assumption); (case Fz100 => assumption); (case hkz100 => exact rfl)); rintro _ _ _ _ _ _ ⟨⟨_, rfl⟩, rfl⟩; k_sweep
    refine e_int (h := ?_)
    refine gt_int ?_
    refine truthy_b (h := ?_)
    refine if_f (hc := (by kernel_rfl!)) (h := ?_)
    refine x_if (h := ?_)
    refine t_cmp (h := ?_)
    refine e_mcall1 (hk := mk_sort _) (h := ?_)
    (refine' Does.use' (sort_does _ ?hDz101 ?hUz101 ?hAz101 ?hBz101 ?hlenz101 ?hsubz101 ?htz101) ?haz101 ?Bz101 ?Xz101 ?Tz101 ?Fz101 ?Nz101 ?hkz101 (Nat.le_refl _) (Nat.le_refl _) ?_; (case Nz101 => assumption); (case hAz101 => assumption); (case hBz101 => assumption); (case haz101 => exact rfl); (case hDz101 => omega); (case hUz101 => omega); (case hlenz101 => omega); (case htz101 => assumption); (case hsubz101 => kst_all); (case Bz101 => assumption); (case Xz101 => assumption); (case Tz101 => assumption); (case Fz101 => assumption); (case hkz101 => exact rfl)); rintro _ _ _ _ _ _ ⟨⟨_, rfl⟩, rfl⟩; k_sweep
    refine e_globI (hk := (gk_BOOL _)) (h := ?_); intro _
    refine ne_int ?_
    refine truthy_b (h := ?_)
    refine if_f (hc := (by kernel_rfl!)) (h := ?_)
    refine x_ifs_f (hc := by kernel_rfl!) (h := ?_)
    refine x_ifs_t (hc := by kernel_rfl!) (h := ?_)
    refine x_ret (h := ?_)
    refine e_cmp (h := ?_)
    refine e_bcall (hk := (bk_len _)) (hb := bb_len) (hne := bn_len) (h := ?_)
    refine wa_cons (h := ?_)
    refine e_lcT (by assumption) (by with_unfolding_all rfl) (by decide) rfl (by decide) rfl (fun _ => by with_unfolding_all rfl) ?_
    refine e_cell (h := ?_)
    refine lcT_pure (vs := (List.map (fun x : Int => f x.toNat) [x, y]).map Value.bool) (pz := fun k => decide ((List.map (fun x : Int => f x.toNat) [x, y]).count ((List.map (fun x : Int => f x.toNat) [x, y]).getD k false) = 1)) (Y := once (List.map (fun x : Int => f x.toNat) [x, y])) rfl (by assumption) (by assumption) (by k_mem) (Nat.le_of_ble_eq_true rfl) rfl ?hY ?ht ?he ?hK
    case hY =>
      intro k v hv
      rw [List.getElem?_map] at hv
      obtain ⟨c, hc, rfl⟩ := Option.map_eq_some_iff.mp hv
      rw [once_step hc, List.getD_eq_getElem?_getD, hc]; rfl
    case ht =>
      clear hq
      intro k v I oI C oC D m2 h1 tk1 E' hv hns hm2 F1 N1
      rw [List.getElem?_map] at hv
      obtain ⟨c, hc, rfl⟩ := Option.map_eq_some_iff.mp hv
      refine t_cmp (h := ?_)
      (refine' cv_meth ?Nz102 ?kz102 ?xz102 ?cz102 ?mz102 ?oz102 ?dz102 ?nz102 ?pz102 (fun pl R h => gm_list PySem.F.slot_list_count PySem.F.type_list_count ?N2z102 ?m2z102 h) ?_; (case Nz102 => with_reducible assumption); (case kz102 => exact rfl); (case xz102 => kernel_rfl!); (case cz102 => exact rfl); (case mz102 => k_mem); (case oz102 => with_reducible assumption); (case dz102 => kernel_rfl!); (case nz102 => exact rfl); (case pz102 => exact rfl); (case N2z102 => with_reducible assumption); (case m2z102 => k_mem))
      refine cv_local (hC := by (exact List.Mem.tail _ (List.Mem.head _))) (h := ?_)
      refine c_count (h := ?_)
      refine e_int (h := ?_)
      refine eq_int ?_
      refine truthy_b (h := ?_)
      rename Fr g L _ _ => F9
      rename News g L _ _ => N9
      refine ⟨?_, _, _, rfl, F9, N9⟩
      rw [List.getD_eq_getElem?_getD, hc]
      rw [Bool.eq_iff_iff, beq_iff_eq, decide_eq_true_eq]
      show _ ↔ (List.map (fun x : Int => f x.toNat) [x, y]).count c = 1
      omega
    case he =>
      clear hq
      intro k v I oI C oC D m2 h1 tk1 E' hv hns hm2 F1 N1
      refine cv_local (hC := by (exact List.Mem.tail _ (List.Mem.head _))) (h := ?_)
      exact reads1 F1 N1
    case hK =>
      intro D h tk F9 N9 o1
      k_sweep
      (try dsimp only)
      refine wa_nil (h := ?_)
      refine c_len (hz := by ((simp only [List.size_toArray, List.length_append, List.length_cons, List.length_nil]); omega)) (h := ?_)
      refine e_bcall (hk := (bk_len _)) (hb := bb_len) (hne := bn_len) (h := ?_)
      refine wa_cons (h := ?_)
      refine e_cell (h := ?_)
      refine wa_nil (h := ?_)
      refine c_len (hz := by ((simp only [List.size_toArray, List.length_append, List.length_cons, List.length_nil]); omega)) (h := ?_)
      refine eq_int ?_
      show Q (Flow.ret _) _
      rename News g L _ _ => N8
      refine hq _ _ (back (by assumption) (N8.perm (by kst_all)) rfl ⟨?_, rfl⟩)
      exact congrArg Value.bool ((once_end2 f x y).trans nv_dis2.symm)
  | dis3 x y z hx hy hz =>
    dsimp only at hl hl0
    have hsz : (once (List.map (fun x : Int => f x.toNat) [x, y, z]) ((List.map (fun x : Int => f x.toNat) [x, y, z]).map Value.bool).length).length ≤ 3 := by
      unfold once
      rw [List.length_map]
      exact Nat.le_trans (List.length_filter_le _ _) (Nat.le_trans (List.length_take_le' _ _) (Nat.le_of_ble_eq_true rfl))
    refine x_asg (h := ?_)
    refine e_mcall1 (hk := mk_op _) (h := ?_)
    (refine' Does.use' (op_does _ ?hDz103 ?hUz103 ?hAz103 ?hBz103 ?hlenz103 ?hsubz103 ?htz103) ?haz103 ?Bz103 ?Xz103 ?Tz103 ?Fz103 ?Nz103 ?hkz103 (Nat.le_refl _) (Nat.le_refl _) ?_; (case Nz103 => assumption); (case hAz103 => assumption); (case hBz103 => assumption); (case haz103 => exact rfl); (case hDz103 => omega); (case hUz103 => omega); (case hlenz103 => omega); (case htz103 => assumption); (case hsubz103 => kst_all); (case Bz103 => assumption); (case Xz103 => assumption); (case Tz103 => assumption); (case Fz103 => assumption); (case hkz103 => exact rfl)); rintro _ _ _ _ _ _ ⟨⟨_, rfl⟩, rfl⟩; k_sweep; (try dsimp only)
    refine s_var (h := ?_); walk_at "p9"
    refine x_if (h := ?_)
    refine t_cmp (h := ?_)
    refine e_var (h := ?_)
    refine e_tup (h := ?_)
    refine wa_cons (h := ?_)
    refine e_str (h := ?_)
    refine wa_cons (h := ?_)
    refine e_str (h := ?_)
    refine wa_nil (h := ?_)
    refine n_tup (h := ?_); walk_at "p1"
    refine c_instr (hi := by (repeat constructor)) (b := _) (h := ?_)
    refine truthy_b (h := ?_)
    refine if_f (hc := (by kernel_rfl!)) (h := ?_)
    refine x_ifs_f (hc := by kernel_rfl!) (h := ?_)
    refine x_ifs_f (hc := by kernel_rfl!) (h := ?_)
    refine x_ifs_f (hc := by kernel_rfl!) (h := ?_)
    refine x_if (h := ?_)
    refine t_cmp (h := ?_)
    refine e_mcall1 (hk := mk_width _) (h := ?_)
    (refine' Does.use' (width_does _ ?hDz104 ?hUz104 ?hAz104 ?hBz104 ?hlenz104 ?hsubz104 ?htz104 ?hswz104) ?haz104 ?Bz104 ?Xz104 ?Tz104 ?Fz104 ?Nz104 ?hkz104 (Nat.le_refl _) (Nat.le_refl _) ?_; (case Nz104 => assumption); (case hAz104 => assumption); (case hBz104 => assumption); (case haz104 => exact rfl); (case hDz104 => omega); (case hUz104 => omega); (case hlenz104 => omega); (case htz104 => assumption); (case hswz104 => assumption); (case hsubz104 => kst_all); (case Bz104 => assumption); (case Xz104 => assumption); (case Tz104 => assumption); (case Fz104 => assumption); (case hkz104 => exact rfl)); rintro _ _ _ _ _ _ ⟨⟨_, rfl⟩, rfl⟩; k_sweep
    refine e_int (h := ?_)
    refine gt_int ?_
    refine truthy_b (h := ?_)
    refine if_f (hc := (by kernel_rfl!)) (h := ?_)
    refine x_if (h := ?_)
    refine t_cmp (h := ?_)
    refine e_mcall1 (hk := mk_sort _) (h := ?_)
    (refine' Does.use' (sort_does _ ?hDz105 ?hUz105 ?hAz105 ?hBz105 ?hlenz105 ?hsubz105 ?htz105) ?haz105 ?Bz105 ?Xz105 ?Tz105 ?Fz105 ?Nz105 ?hkz105 (Nat.le_refl _) (Nat.le_refl _) ?_; (case Nz105 => assumption); (case hAz105 => assumption); (case hBz105 => assumption); (case haz105 => exact rfl); (case hDz105 => omega); (case hUz105 => omega); (case hlenz105 => omega); (case htz105 => assumption); (case hsubz105 => kst_all); (case Bz105 => assumption); (case Xz105 => assumption); (case Tz105 => assumption); (case Fz105 => assumption); (case hkz105 => exact rfl)); rintro _ _ _ _ _ _ ⟨⟨_, rfl⟩, rfl⟩; k_sweep
    refine e_globI (hk := (gk_BOOL _)) (h := ?_); intro _
    refine ne_int ?_
    refine truthy_b (h := ?_)
    refine if_f (hc := (by kernel_rfl!)) (h := ?_)
    refine x_ifs_f (hc := by kernel_rfl!) (h := ?_)
    refine x_ifs_t (hc := by kernel_rfl!) (h := ?_)
    refine x_ret (h := ?_)
    refine e_cmp (h := ?_)
    refine e_bcall (hk := (bk_len _)) (hb := bb_len) (hne := bn_len) (h := ?_)
    refine wa_cons (h := ?_)
    refine e_lcT (by assumption) (by with_unfolding_all rfl) (by decide) rfl (by decide) rfl (fun _ => by with_unfolding_all rfl) ?_
    refine e_cell (h := ?_)
    refine lcT_pure (vs := (List.map (fun x : Int => f x.toNat) [x, y, z]).map Value.bool) (pz := fun k => decide ((List.map (fun x : Int => f x.toNat) [x, y, z]).count ((List.map (fun x : Int => f x.toNat) [x, y, z]).getD k false) = 1)) (Y := once (List.map (fun x : Int => f x.toNat) [x, y, z])) rfl (by assumption) (by assumption) (by k_mem) (Nat.le_of_ble_eq_true rfl) rfl ?hY ?ht ?he ?hK
    case hY =>
      intro k v hv
      rw [List.getElem?_map] at hv
      obtain ⟨c, hc, rfl⟩ := Option.map_eq_some_iff.mp hv
      rw [once_step hc, List.getD_eq_getElem?_getD, hc]; rfl
    case ht =>
      clear hq
      intro k v I oI C oC D m2 h1 tk1 E' hv hns hm2 F1 N1
      rw [List.getElem?_map] at hv
      obtain ⟨c, hc, rfl⟩ := Option.map_eq_some_iff.mp hv
      refine t_cmp (h := ?_)
      (refine' cv_meth ?Nz106 ?kz106 ?xz106 ?cz106 ?mz106 ?oz106 ?dz106 ?nz106 ?pz106 (fun pl R h => gm_list PySem.F.slot_list_count PySem.F.type_list_count ?N2z106 ?m2z106 h) ?_; (case Nz106 => with_reducible assumption); (case kz106 => exact rfl); (case xz106 => kernel_rfl!); (case cz106 => exact rfl); (case mz106 => k_mem); (case oz106 => with_reducible assumption); (case dz106 => kernel_rfl!); (case nz106 => exact rfl); (case pz106 => exact rfl); (case N2z106 => with_reducible assumption); (case m2z106 => k_mem))
      refine cv_local (hC := by (exact List.Mem.tail _ (List.Mem.head _))) (h := ?_)
      refine c_count (h := ?_)
      refine e_int (h := ?_)
      refine eq_int ?_
      refine truthy_b (h := ?_)
      rename Fr g L _ _ => F9
      rename News g L _ _ => N9
      refine ⟨?_, _, _, rfl, F9, N9⟩
      rw [List.getD_eq_getElem?_getD, hc]
      rw [Bool.eq_iff_iff, beq_iff_eq, decide_eq_true_eq]
      show _ ↔ (List.map (fun x : Int => f x.toNat) [x, y, z]).count c = 1
      omega
    case he =>
      clear hq
      intro k v I oI C oC D m2 h1 tk1 E' hv hns hm2 F1 N1
      refine cv_local (hC := by (exact List.Mem.tail _ (List.Mem.head _))) (h := ?_)
      exact reads1 F1 N1
    case hK =>
      intro D h tk F9 N9 o1
      k_sweep
      (try dsimp only)
      refine wa_nil (h := ?_)
      refine c_len (hz := by ((simp only [List.size_toArray, List.length_append, List.length_cons, List.length_nil]); omega)) (h := ?_)
      refine e_bcall (hk := (bk_len _)) (hb := bb_len) (hne := bn_len) (h := ?_)
      refine wa_cons (h := ?_)
      refine e_cell (h := ?_)
      refine wa_nil (h := ?_)
      refine c_len (hz := by ((simp only [List.size_toArray, List.length_append, List.length_cons, List.length_nil]); omega)) (h := ?_)
      refine eq_int ?_
      show Q (Flow.ret _) _
      rename News g L _ _ => N8
      refine hq _ _ (back (by assumption) (N8.perm (by kst_all)) rfl ⟨?_, rfl⟩)
      exact congrArg Value.bool ((once_end3 f x y z).trans nv_dis3.symm)
  | ite x y z hx hy hz =>
    dsimp only at hl hl0
    cases hfx : f x.toNat
    focus
      refine x_asg (h := ?_)
      refine e_mcall1 (hk := mk_op _) (h := ?_)
      (refine' Does.use' (op_does _ ?hDz107 ?hUz107 ?hAz107 ?hBz107 ?hlenz107 ?hsubz107 ?htz107) ?haz107 ?Bz107 ?Xz107 ?Tz107 ?Fz107 ?Nz107 ?hkz107 (Nat.le_refl _) (Nat.le_refl _) ?_; (case Nz107 => assumption); (case hAz107 => assumption); (case hBz107 => assumption); (case haz107 => exact rfl); (case hDz107 => omega); (case hUz107 => omega); (case hlenz107 => omega); (case htz107 => assumption); (case hsubz107 => kst_all); (case Bz107 => assumption); (case Xz107 => assumption); (case Tz107 => assumption); (case Fz107 => assumption); (case hkz107 => exact rfl)); rintro _ _ _ _ _ _ ⟨⟨_, rfl⟩, rfl⟩; k_sweep; (try dsimp only)
      refine s_var (h := ?_); walk_at "p9"
      refine x_if (h := ?_)
      refine t_cmp (h := ?_)
      refine e_var (h := ?_)
      refine e_tup (h := ?_)
      refine wa_cons (h := ?_)
      refine e_str (h := ?_)
      refine wa_cons (h := ?_)
      refine e_str (h := ?_)
      refine wa_nil (h := ?_)
      refine n_tup (h := ?_); walk_at "p1"
      refine c_instr (hi := by (repeat constructor)) (b := _) (h := ?_)
      refine truthy_b (h := ?_)
      refine if_f (hc := (by kernel_rfl!)) (h := ?_)
      refine x_ifs_f (hc := by kernel_rfl!) (h := ?_)
      refine x_ifs_f (hc := by kernel_rfl!) (h := ?_)
      refine x_ifs_t (hc := by kernel_rfl!) (h := ?_)
      refine x_ret (h := ?_)
      refine IfExp_ ?_
      walk1
      refine Subscript_ ?_
      refine e_cell (h := ?_)
      refine e_int (h := ?_)
      refine c_itemL (h := ?_)
      refine truthy_b (h := ?_)
      refine if_f (hc := (by kst_p2)) (h := ?_)
      refine Subscript_ ?_
      refine e_cell (h := ?_)
      refine e_int (h := ?_)
      refine c_itemL (h := ?_)
    rotate_left
    focus
      refine x_asg (h := ?_)
      refine e_mcall1 (hk := mk_op _) (h := ?_)
      (refine' Does.use' (op_does _ ?hDz108 ?hUz108 ?hAz108 ?hBz108 ?hlenz108 ?hsubz108 ?htz108) ?haz108 ?Bz108 ?Xz108 ?Tz108 ?Fz108 ?Nz108 ?hkz108 (Nat.le_refl _) (Nat.le_refl _) ?_; (case Nz108 => assumption); (case hAz108 => assumption); (case hBz108 => assumption); (case haz108 => exact rfl); (case hDz108 => omega); (case hUz108 => omega); (case hlenz108 => omega); (case htz108 => assumption); (case hsubz108 => kst_all); (case Bz108 => assumption); (case Xz108 => assumption); (case Tz108 => assumption); (case Fz108 => assumption); (case hkz108 => exact rfl)); rintro _ _ _ _ _ _ ⟨⟨_, rfl⟩, rfl⟩; k_sweep; (try dsimp only)
      refine s_var (h := ?_); walk_at "p9"
      refine x_if (h := ?_)
      refine t_cmp (h := ?_)
      refine e_var (h := ?_)
      refine e_tup (h := ?_)
      refine wa_cons (h := ?_)
      refine e_str (h := ?_)
      refine wa_cons (h := ?_)
      refine e_str (h := ?_)
      refine wa_nil (h := ?_)
      refine n_tup (h := ?_); walk_at "p1"
      refine c_instr (hi := by (repeat constructor)) (b := _) (h := ?_)
      refine truthy_b (h := ?_)
      refine if_f (hc := (by kernel_rfl!)) (h := ?_)
      refine x_ifs_f (hc := by kernel_rfl!) (h := ?_)
      refine x_ifs_f (hc := by kernel_rfl!) (h := ?_)
      refine x_ifs_t (hc := by kernel_rfl!) (h := ?_)
      refine x_ret (h := ?_)
      refine IfExp_ ?_
      walk1
      refine Subscript_ ?_
      refine e_cell (h := ?_)
      refine e_int (h := ?_)
      refine c_itemL (h := ?_)
      refine truthy_b (h := ?_)
      refine if_t (hc := (by kst_p2)) (h := ?_)
      refine Subscript_ ?_
      refine e_cell (h := ?_)
      refine e_int (h := ?_)
      refine c_itemL (h := ?_)
    rotate_left
    all_goals (show Q (Flow.ret _) _; rename News g L _ _ => N9; refine hq _ _ (back (by assumption) (N9.perm (by kst_all)) rfl ⟨?_, rfl⟩); first | rfl | (simp [nv_tru, nv_fls, nv_and, nv_or]; done) | (rw [nv_ite, hfx]; rfl))
  | and x y z hx hy hz => exact absurd (by dsimp only; decide) h5
  | or x y z hx hy hz => exact absurd (by dsimp only; decide) h5
/- EvA -/
set_option maxHeartbeats 8000000 in
theorem parts1_does (w : World) {D U : Nat} (hD : D < 590) (hU : U < 1190) {a : BA} {b : BS} {rest news : Led} {n : Nat} {tn : Tok}
  (hA : a.Ok) (hB : Bank w rest b) (wf : Wf b.T) (hlen : b.T.length ≤ 13) (hsub : ∀ p ∈ BL a b ++ rest, p ∈ news) (hn : Tn b.T n) :
  Does w 452 [.ref a.bk, .int n tn] D U news (fun v news' => ∃ D fs vsF nF, v = .ref D ∧ news' = (D, listOf vsF.toArray nF) :: news ∧ AllLt D news ∧ IntsAre vsF (ni fs) ∧ Topo b.T [n] fs) := by
  refine' does_intro' (names := [Str.ofString "self", Str.ofString "t"]) (k := 0) (vals := [some (.ref a.bk), some (.int n tn)]) ?hvals ?ho ?hcd ?hD ?hbind ?hall ?hnd ?hco ?hgen ?hk ?hcell ?body
  tb_start
  intro K A0 base mean mg mb g L h gs dr os tk0 Q lv B X T F N lt hdp hun hq
  have hd1 := Nat.lt_of_le_of_lt hdp (Nat.add_lt_add_right hD 1)
  have hu1 := Nat.lt_of_le_of_lt hun (Nat.add_lt_add_right hU 3)
  show wpAny _ _ (execs (_ :: _) _) _ _ _
  have v0 := lv 0 (Str.ofString "self") rfl
  have v1 := lv 1 (Str.ofString "t") rfl
  clear lv
  have q_poa : getL (Str.ofString "parts_of_all") a.es = some none := hA.no "parts_of_all" (by decide)
  have hbk := hsub _ (.head _)
  have hbd := hsub _ (.tail _ (.head _))
  refine x_ret (h := ?_)
  refine e_mcall (hk := mk_parts_of_all _) (h := ?_)
  refine wa_cons (h := ?_)
  refine e_tup (h := ?_)
  refine wa_v1 (h := ?_)
  refine n_tup (h := ?_); walk_at "p1"
  refine wa_nil (h := ?_)
  refine ⟨In.of (by with_reducible assumption) (by with_reducible assumption), ?_⟩
  (refine' Does.use' (parts_does _ (roots := [_]) ?hDz76 ?hUz76 ?hAz76 ?hBz76 ?wfz76 ?hlenz76 ?hsubz76 ?hlz76 ?hoz76 ?hiz76 ?hrz76) ?haz76 ?Bz76 ?Xz76 ?Tz76 ?Fz76 ?Nz76 ?hkz76 (Nat.le_refl _) (Nat.le_refl _) ?_; (case Nz76 => assumption); (case hAz76 => assumption); (case hBz76 => assumption); (case wfz76 => assumption); (case haz76 => exact rfl); (case hDz76 => omega); (case hUz76 => omega); (case hlenz76 => omega); (case hsubz76 => kst_all); (case hlz76 => k_mem); (case hoz76 => first | assumption | exact Or.inr rfl | exact Or.inl rfl); (case hiz76 => exact IntsAre.cons _ _ IntsAre.nil); (case hrz76 => intro x hx; rw [List.mem_singleton.mp hx]; assumption); (case Bz76 => assumption); (case Xz76 => assumption); (case Tz76 => assumption); (case Fz76 => assumption); (case hkz76 => exact rfl)); walk_at "p5"
  rename Topo _ _ _ => hT
  rename IntsAre _ _ => hI
  rename News g L _ _ => N9
  rename _ ∧ AllLt _ _ => hL
  exact hq _ _ (back (by assumption) (N9.perm (fun p hp => by rcases List.mem_cons.mp hp with e | hp; exact e ▸ .head _; exact .tail _ (.tail _ hp))) rfl ⟨_, _, _, _, rfl, rfl, hL.2, hI, hT⟩)
/- Wd -/
set_option maxHeartbeats 16000000 in
theorem words_does (w : World) {D U : Nat} (hD : D < 495) (hU : U < 900) {fd ls : Addr} {nc : Nat} {o : Obj} {vs : List Value} {ns : List Int} {k : Int} {tk : Tok} {rest : Led}
  (ho : o.IsDictOf (PySem.strKind PRG w) [(Str.ofString "cells", .ref ls), (Str.ofString "spot", .int k tk)]) (hi : IntsAre vs ns) (hlen : ns.length ≤ 60) (hk0 : 0 ≤ k) (hk1 : k < 900) (off : OwnOff rest [fd, ls]) (hne : @Ne Nat fd ls) (hlo : (fd == sysModules) = false) :
  Does w 933 [.ref fd] D U ((fd, o) :: (ls, listOf vs.toArray nc) :: rest) (fun v news' => v = .bool true ∧ ∃ o' k' tk', o'.IsDictOf (PySem.strKind PRG w) [(Str.ofString "cells", .ref ls), (Str.ofString "spot", .int k' tk')] ∧ k ≤ k' ∧ k' ≤ k + 6 ∧ news' = (fd, o') :: (ls, listOf vs.toArray nc) :: rest) := by
  refine' does_introC (names := [Str.ofString "lot", Str.ofString "truths", Str.ofString "word", Str.ofString "due", Str.ofString "told"]) (binds := [(Str.ofString "feed", .ref fd)]) (vals := [none, none, none, none, none]) (cl := fun n => [(Str.ofString "feed", n)]) ?hcl ?ho ?hcd ?hD ?hbind ?hvals ?hin ?hall ?hnd ?hkinds ?hndc ?hco ?hgen ?hk ?body
  case ho => k_is
  case hcd => k_is
  case hD => omega
  case hcl => exact fun _ => rfl
  case hbind => exact rfl
  case hvals => exact rfl
  case hin => kernel_rfl!
  case hall => kernel_rfl!
  case hnd => decide +kernel
  case hkinds => kernel_rfl!
  case hndc => decide +kernel
  case hco => exact rfl
  case hgen => exact rfl
  case hk => exact rfl
  intro K A0 base mean mg mb g L h gs dr os tk0 Q cells lv B X T F N Y lt hdp hun hq
  have hd1 := Nat.lt_of_le_of_lt hdp (Nat.add_lt_add_right hD 1)
  have hu1 := Nat.lt_of_le_of_lt hun (Nat.add_lt_add_right hU 3)
  show wpAny _ _ (execs (_ :: _) _) _ _ _
  have v0 := lv 0 (Str.ofString "lot") rfl
  have v1 := lv 1 (Str.ofString "truths") rfl
  have v2 := lv 2 (Str.ofString "word") rfl
  have v3 := lv 3 (Str.ofString "due") rfl
  have v4 := lv 4 (Str.ofString "told") rfl
  clear lv
  obtain ⟨oc, rfl, hoc0⟩ := Y.one
  have hoc : oc.data = .cell (some (.ref fd)) := hoc0.trans (congrArg Data.cell (by kernel_rfl!))
  clear hoc0 Y
  dsimp only [List.cons_append, List.nil_append] at N
  have hfL : @LT.lt Nat _ fd L := lt (fd, o) (.head _)
  have hlL : @LT.lt Nat _ ls L := lt (ls, _) (.tail _ (.head _))
  have offc : OwnOff ((L + 1, oc) :: rest) [fd, ls] := offs off (by intro b hb; rcases List.mem_cons.mp hb with rfl | hb; omega; rw [List.mem_singleton.mp hb]; omega)
  refine x_lcR F v0 rfl (by with_unfolding_all rfl) (by with_unfolding_all rfl) (by decide) rfl (by decide) rfl (fun _ => by with_unfolding_all rfl) ?_
  refine e_tcall (hk := (bk_range _)) (hb := bb_range) (hne := bn_range) (h := ?_)
  refine wa_cons (h := ?_)
  refine e_gcall (hk := fk_law_next _) (h := ?_)
  refine wa_cons (h := ?_)
  refine e_cell (h := ?_)
  refine wa_cons (h := ?_)
  refine e_int (h := ?_)
  refine wa_nil (h := ?_)
  refine ⟨In.of (by with_reducible assumption) (by with_reducible assumption), ?_⟩
  refine Does.use' (next_does w (rest := (L + 1, oc) :: rest) (by omega) (by omega) ho hi hlen hk0 (by omega) (by decide) (by decide) offc hne hlo) rfl B X T (by assumption) (News.perm (by assumption) (by kd_all)) rfl (Nat.le_refl _) (Nat.le_refl _) ?_
  rintro v' h' tk' news' F' N' ⟨r, tr, tk1, o1, rfl, h0, h1, hd1, rfl⟩
  k_sweep
  refine wa_nil (h := ?_)
  refine range1_rows (s := ⟨_, gs, dr, _, os⟩) F' N' fun h2 tk2 t2 u2 w2 hr F2 N2 hk2 => ?_
  clear F' N'
  obtain ⟨rn, rfl⟩ := Int.eq_ofNat_of_zero_le h0
  refine ⟨_, rn, _, _, _, _, _, _, (fun kk ys nx => ∃ (o' : Obj) (tk' : Tok) (bs : List Bool), nx = (fd, o') :: (ls, listOf vs.toArray nc) :: (L + 1, oc) :: rest ∧ o'.IsDictOf (PySem.strKind PRG w) [(Str.ofString "cells", .ref ls), (Str.ofString "spot", .int (k + 1 + (kk : Int)) tk')] ∧ bs.length = kk ∧ IntsAre ys (bs.map bz)), rfl, rfl, rfl, F2, N2, hr, by omega, ?start, ?elt, ?fin⟩
  case start => exact ⟨o1, tk1, [], rfl, by simpa using hd1, rfl, .nil⟩
  case elt =>
    clear hq
    rintro kk v ys nx I oI C oC D m2 h3 tk3 E' hkk hP ⟨o', tk', bs, rfl, hd', hbs, hys⟩ hns hm2 F3 N3 off3 ne3
    simp only [LCg.Off3] at off3
    obtain ⟨⟨a1, a2, a3⟩, ⟨b1, b2, b3⟩, a4⟩ := off3
    have offd : OwnOff ((I, oI) :: (C, oC) :: (D, LCg.lst ys) :: (L + 1, oc) :: rest) [fd, ls] := by
      have k1 : ∀ {x : Addr}, @Ne Nat fd x → @Ne Nat ls x → ∀ b ∈ [fd, ls], @Ne Nat x b := by
        intro x e1 e2 b hb
        rcases List.mem_cons.mp hb with rfl | hb
        · exact Ne.symm e1
        · rw [List.mem_singleton.mp hb]; exact Ne.symm e2
      exact offs (offs (offs offc (k1 a3 b3)) (k1 a2 b2)) (k1 a1 b1)
    refine cv_gcall (hf := fk_law_next _) (h := ?_)
    refine wa_cons (h := ?_)
    refine cv_cell (h := ?_)
    refine wa_cons (h := ?_)
    refine e_int (h := ?_)
    refine wa_nil (h := ?_)
    refine ⟨In.of (by with_reducible assumption) (by with_reducible assumption), ?_⟩
    refine Does.use' (next_does w (rest := (I, oI) :: (C, oC) :: (D, LCg.lst ys) :: (L + 1, oc) :: rest) (by omega) (by omega) hd' hi hlen (by omega) (by omega) (by decide) (by decide) offd hne hlo) rfl B X T (by assumption) (News.perm (by assumption) (by kd_all)) rfl (Nat.le_refl _) (Nat.le_refl _) ?_
    rintro v' h' tk' news' F' N' ⟨r, tr, tk1, o2, rfl, h5, h6, hd2, rfl⟩
    obtain ⟨b, rfl⟩ := bz_of h5 h6
    refine ⟨h', _, (fd, o2) :: (ls, listOf vs.toArray nc) :: (L + 1, oc) :: rest, rfl, F', N'.perm (by kd_all), ?_, ⟨o2, tk1, bs ++ [b], rfl, ?_, by simp [hbs], ?_⟩⟩
    · simp only [LCg.Off3]; exact ⟨⟨a1, a2, a3⟩, ⟨b1, b2, b3⟩, a4⟩
    · rw [show k + 1 + ((kk + 1 : Nat) : Int) = k + 1 + (kk : Int) + 1 by omega]; exact hd2
    · rw [List.map_append]; exact ints_app1 hys
  case fin =>
    rintro D ys nx ⟨o2, tk2', bs, rfl, hd2, hbs, hys⟩ o1' h3 tk3 F3 N3
    clear F2 N2 hr hk2 hd1 ho
    (try clear F)
    (try clear N)
    dsimp only [List.set_cons_succ, List.set_cons_zero] at F3
    simp only [LCg.Off1] at o1'
    obtain ⟨p1, p2, p3, p4⟩ := o1'
    refine x_lcL F3 v1 rfl (by with_unfolding_all rfl) (by with_unfolding_all rfl) (by decide) rfl (by decide) rfl (fun _ => by with_unfolding_all rfl) ?_
    refine e_var (h := ?_)
    have hysl : ys.length = bs.length := by rw [hys.length, List.length_map]
    refine lc_pure (vs := ys) (ws := bs.map Value.bool) rfl F3 N3 (.head _) (Or.inl rfl) (by omega) (by rw [List.length_map, hysl]) ?he ?hK
    case he =>
      clear hq
      intro j v y I2 oI2 C oC D2 m2 h2 tk2 E' hv2 hy hns hm2 F4 N4
      obtain ⟨c, tc, hc, rfl⟩ := ints_at2 hys hv2
      rw [List.getElem?_map] at hc hy
      obtain ⟨b, hb, rfl⟩ := Option.map_eq_some_iff.mp hc
      rw [hb] at hy
      obtain rfl := Option.some.inj hy
      refine e_cmp (h := ?_)
      refine cv_local (hC := by (exact List.Mem.tail _ (List.Mem.head _))) (h := ?_)
      refine e_int (h := ?_)
      refine eq_int ?_
      rename Fr g L _ _ => F4
      rename News g L _ _ => N4
      rw [bz_is1]
      exact reads1 F4 N4
    case hK =>
      intro D2 h4 tk4 F4 N4 o4 h5 F5 N5
      clear F4 N4 F3 N3
      dsimp only [List.set_cons_succ, List.set_cons_zero] at F5
      simp only [LCg.Off1] at o4
      obtain ⟨q1, q2, q3, q4, q5⟩ := o4
      refine x_for (hs := by (intro v; with_unfolding_all rfl)) (h := ?_)
      refine e_tup (h := ?_)
      refine wa_cons (h := ?_)
      refine e_str (h := ?_)
      refine wa_cons (h := ?_)
      refine e_str (h := ?_)
      refine wa_cons (h := ?_)
      refine e_str (h := ?_)
      refine wa_cons (h := ?_)
      refine e_str (h := ?_)
      refine wa_cons (h := ?_)
      refine e_str (h := ?_)
      refine wa_cons (h := ?_)
      refine e_str (h := ?_)
      refine wa_cons (h := ?_)
      refine e_str (h := ?_)
      refine wa_cons (h := ?_)
      refine e_str (h := ?_)
      refine wa_cons (h := ?_)
      refine e_str (h := ?_)
      refine wa_cons (h := ?_)
      refine e_str (h := ?_)
      refine wa_cons (h := ?_)
      refine e_str (h := ?_)
      refine wa_cons (h := ?_)
      refine e_str (h := ?_)
      refine wa_cons (h := ?_)
      refine e_str (h := ?_)
      refine wa_nil (h := ?_)
      refine n_tup (h := ?_); walk_at "p1"
      rename Fr g L _ _ => F6
      rename News g L _ _ => N6
      rename _ ∧ _ => l6
      rename_i Tw hw
      obtain ⟨wsv, hall, N7⟩ : ∃ wsv, allS wsv = true ∧ News g L hw ((Tw, tup wsv 0) :: (D2, LCg.lst (bs.map Value.bool)) :: (D, LCg.lst ys) :: (fd, o2) :: (ls, listOf vs.toArray nc) :: (L + 1, oc) :: rest) := ⟨_, rfl, N6⟩
      clear N6
      refine p_tup rfl F6 N7 (.head _) v2 (fun _ vals' news' => ∃ u2 u3 u4, vals' = [some (.ref D), some (.ref D2), u2, u3, u4] ∧ news' = (Tw, tup wsv 0) :: (D2, LCg.lst (bs.map Value.bool)) :: (D, LCg.lst ys) :: (fd, o2) :: (ls, listOf vs.toArray nc) :: (L + 1, oc) :: rest) ⟨_, _, _, rfl, rfl⟩ ?hJl ?hJn ?turn ?done
      case hJl => rintro kk vals' news' ⟨u2, u3, u4, rfl, rfl⟩; exact .head _
      case hJn => rintro kk vals' news' ⟨u2, u3, u4, rfl, rfl⟩; rfl
      case turn =>
        clear hq F6 N7
        rintro kk v vals1 news1 h6 tk6 I oI hv ⟨u2, u3, u4, rfl, rfl⟩ hne1 F1 N1 QT hQT
        dsimp only [List.set_cons_succ, List.set_cons_zero] at F1
        obtain ⟨op, top, rfl⟩ := allS_get hall hv
        refine x_if (h := ?_)
        refine t_cmp (h := ?_)
        refine e_bcall (hk := (bk_len _)) (hb := bb_len) (hne := bn_len) (h := ?_)
        refine wa_v1 (h := ?_)
        refine c_len (hz := by ((simp only [List.size_toArray, List.length_append, List.length_cons, List.length_nil]); omega)) (h := ?_)
        refine e_xmeth (h := ?_)
        refine e_dstr (h0 := by (exact List.cons_ne_nil _ _)) (hlen := by (exact Nat.le_of_ble_eq_true rfl)) (h := ?_); walk_at "p3"
        refine pairTrees_cons_walk ?_
        refine e_str (h := ?_)
        refine e_int (h := ?_)
        refine pairTrees_cons_walk ?_
        refine e_str (h := ?_)
        refine e_int (h := ?_)
        refine pairTrees_cons_walk ?_
        refine e_str (h := ?_)
        refine e_int (h := ?_)
        refine pairTrees_nil_walk ?_
        refine dm_str (hkv := by (dsimp only [strPairs])) (hn := by (first | rfl | kernel_rfl!)) (h := ?_); walk_at "p12"
        refine recv_S (h := ?_)
        refine wa_v (h := ?_)
        refine wa_cons (h := ?_)
        refine e_int (h := ?_)
        refine wa_nil (h := ?_)
        refine c_getS (h := ?_)
        refine lt_need fun c hc => ?_
        refine truthy_b (h := ?_)
        refine if_s (fun hc' => ?_) (fun hc' => ?_)
        · refine x_cont (h := ?_)
          rename Fr g L _ _ => F9
          rename News g L _ _ => N9
          exact hQT _ _ (turn_cont F9 (N9.perm (by kd_all)) hne1 ⟨_, _, _, rfl, rfl⟩)
        · have hEn : Enough op bs := hc hc' bs (by rw [← hysl]; rfl)
          have hbl : (bs.map Value.bool).length ≤ 1000 := by rw [List.length_map]; omega
          refine x_asg (h := ?_)
          refine e_gcall (hk := fk_law_worth _) (h := ?_)
          refine wa_v (h := ?_)
          refine wa_v1 (h := ?_)
          refine ⟨In.of (by with_reducible assumption) (by with_reducible assumption), ?_⟩
          (refine' Does.use' (worth_does _ ?hDz88 ?hUz88 ?hlz88 ?hiz88 ?hlenz88 ?hEz88) ?haz88 ?Bz88 ?Xz88 ?Tz88 ?Fz88 ?Nz88 ?hkz88 (Nat.le_refl _) (Nat.le_refl _) ?_; (case Nz88 => assumption); (case haz88 => exact rfl); (case hlz88 => k_mem); (case hiz88 => assumption); (case hlenz88 => first | assumption | exact Nat.le_of_ble_eq_true rfl | omega); (case hDz88 => omega); (case hUz88 => omega); (case hEz88 => first | assumption | tlg_ne); (case Bz88 => assumption); (case Xz88 => assumption); (case Tz88 => assumption); (case Fz88 => assumption); (case hkz88 => exact rfl)); rintro _ _ _ _ _ _ ⟨_, rfl⟩; k_sweep
          refine s_var (h := ?_); walk_at "p9"
          refine x_for (hs := by (intro v; with_unfolding_all rfl)) (h := ?_)
          refine e_tup (h := ?_)
          refine wa_cons (h := ?_)
          refine e_gcall (hk := fk_connected _) (h := ?_)
          refine wa_v (h := ?_)
          refine wa_v1 (h := ?_)
          refine ⟨In.of (by with_reducible assumption) (by with_reducible assumption), ?_⟩
          (refine' Does.use' (connected_does _ ?hDz89 ?hUz89 ?hlz89 ?hoz89 ?hEz89) ?haz89 ?Bz89 ?Xz89 ?Tz89 ?Fz89 ?Nz89 ?hkz89 (Nat.le_refl _) (Nat.le_refl _) ?_; (case Nz89 => assumption); (case haz89 => exact rfl); (case hlz89 => k_mem); (case hoz89 => first | exact Or.inl rfl | exact Or.inr rfl); (case hDz89 => omega); (case hUz89 => omega); (case hEz89 => first | assumption | tlg_ne); (case Bz89 => assumption); (case Xz89 => assumption); (case Tz89 => assumption); (case Fz89 => assumption); (case hkz89 => exact rfl)); rintro _ _ _ _ _ _ ⟨e1', rfl⟩; (try simp only [conn_not, conn_and, conn_or, conn_xor, conn_imp, ov] at e1'); subst e1'; k_sweep
          refine wa_cons (h := ?_)
          refine e_gcall (hk := fk_connected _) (h := ?_)
          refine wa_v (h := ?_)
          refine wa_cons (h := ?_)
          refine e_tcall (hk := (bk_tuple _)) (hb := bb_tuple) (hne := bn_tuple) (h := ?_)
          refine wa_v1 (h := ?_)
          refine c_tupl (hz := by (first | exact Nat.le_of_ble_eq_true rfl | omega)) (h := ?_); walk_at "p1"
          refine wa_nil (h := ?_)
          refine ⟨In.of (by with_reducible assumption) (by with_reducible assumption), ?_⟩
          (refine' Does.use' (connected_does _ ?hDz90 ?hUz90 ?hlz90 ?hoz90 ?hEz90) ?haz90 ?Bz90 ?Xz90 ?Tz90 ?Fz90 ?Nz90 ?hkz90 (Nat.le_refl _) (Nat.le_refl _) ?_; (case Nz90 => assumption); (case haz90 => exact rfl); (case hlz90 => k_mem); (case hoz90 => first | exact Or.inl rfl | exact Or.inr rfl); (case hDz90 => omega); (case hUz90 => omega); (case hEz90 => first | assumption | tlg_ne); (case Bz90 => assumption); (case Xz90 => assumption); (case Tz90 => assumption); (case Fz90 => assumption); (case hkz90 => exact rfl)); rintro _ _ _ _ _ _ ⟨e1', rfl⟩; (try simp only [conn_not, conn_and, conn_or, conn_xor, conn_imp, ov] at e1'); subst e1'; k_sweep
          refine wa_nil (h := ?_)
          refine n_tup (h := ?_); walk_at "p1"
          rename WV _ _ => hW
          rename Fr g L _ _ => F9
          rename News g L _ _ => N8
          rename_i Tu hu lu
          cases hcv : conn op bs with
          | none =>
            simp only [hcv] at N8 hW
            obtain rfl := hW
            have N9 : News g L hu ((Tu, tup [Value.none, Value.none] 0) :: (I, oI) :: (Tw, tup wsv 0) :: (D2, LCg.lst (bs.map Value.bool)) :: (D, LCg.lst ys) :: (fd, o2) :: (ls, listOf vs.toArray nc) :: (L + 1, oc) :: rest) := N8.perm (by kd_all)
            refine p_tup rfl F9 N9 (.head _) v4 (fun _ vals' news' => ∃ u4, vals' = [some (.ref D), some (.ref D2), some (.str op top), some .none, u4] ∧ news' = (Tu, tup [Value.none, Value.none] 0) :: (I, oI) :: (Tw, tup wsv 0) :: (D2, LCg.lst (bs.map Value.bool)) :: (D, LCg.lst ys) :: (fd, o2) :: (ls, listOf vs.toArray nc) :: (L + 1, oc) :: rest) ⟨_, rfl, rfl⟩ ?hJl2 ?hJn2 ?turn2 ?done2
            case hJl2 => rintro kk vals' news' ⟨u4, rfl, rfl⟩; exact .head _
            case hJn2 => rintro kk vals' news' ⟨u4, rfl, rfl⟩; rfl
            case turn2 =>
              clear F9 N9 N8
              rintro kk v vals1 news1 h6 tk6 I2 oI2 hv2 ⟨u4, rfl, rfl⟩ hne2 F1 N1 QT2 hQT2
              dsimp only [List.set_cons_succ, List.set_cons_zero] at F1
              obtain rfl : v = Value.none := by have := List.mem_of_getElem? hv2; simpa using this
              refine x_if (h := ?_)
              refine t_cmp (h := ?_)
              refine e_var (h := ?_)
              refine IfExp_ ?_
              refine t_cmp (h := ?_)
              refine e_var (h := ?_)
              refine PyProof.Rows.Constant_none ?_
              refine PyProof.Rows.is_none_none ?_
              refine truthy_b (h := ?_)
              refine if_t (hc := (by kernel_rfl!)) (h := ?_)
              refine PyProof.Rows.Constant_none ?_
              refine PyProof.Rows.isnot_none_none ?_
              refine truthy_b (h := ?_)
              refine if_f (hc := (by kernel_rfl!)) (h := ?_)
              refine x_nil (h := ?_)
              all_goals (rename Fr g L _ _ => F9; rename News g L _ _ => N9; exact hQT2 _ _ (turn_next F9 N9 hne2 ⟨_, rfl, rfl⟩))
            case done2 =>
              clear F9 N9 N8
              rintro vals' news' h' tk' ⟨u4, rfl, rfl⟩ F' N'
              show wpAny _ _ (execs _ _) _ _ _
              refine x_nil (h := ?_)
              exact hQT _ _ (turn_next F' (N'.perm (by kd_all)) hne1 ⟨_, _, _, rfl, rfl⟩)
          | some cb =>
            simp only [hcv] at N8 hW
            obtain ⟨td, rfl⟩ := hW
            have N9 : News g L hu ((Tu, tup [Value.bool cb, Value.bool cb] 0) :: (I, oI) :: (Tw, tup wsv 0) :: (D2, LCg.lst (bs.map Value.bool)) :: (D, LCg.lst ys) :: (fd, o2) :: (ls, listOf vs.toArray nc) :: (L + 1, oc) :: rest) := N8.perm (by kd_all)
            refine p_tup rfl F9 N9 (.head _) v4 (fun _ vals' news' => ∃ u4, vals' = [some (.ref D), some (.ref D2), some (.str op top), some (.int (bz cb) td), u4] ∧ news' = (Tu, tup [Value.bool cb, Value.bool cb] 0) :: (I, oI) :: (Tw, tup wsv 0) :: (D2, LCg.lst (bs.map Value.bool)) :: (D, LCg.lst ys) :: (fd, o2) :: (ls, listOf vs.toArray nc) :: (L + 1, oc) :: rest) ⟨_, rfl, rfl⟩ ?hJl2 ?hJn2 ?turn2 ?done2
            case hJl2 => rintro kk vals' news' ⟨u4, rfl, rfl⟩; exact .head _
            case hJn2 => rintro kk vals' news' ⟨u4, rfl, rfl⟩; rfl
            case turn2 =>
              clear F9 N9 N8
              rintro kk v vals1 news1 h6 tk6 I2 oI2 hv2 ⟨u4, rfl, rfl⟩ hne2 F1 N1 QT2 hQT2
              dsimp only [List.set_cons_succ, List.set_cons_zero] at F1
              obtain rfl : v = Value.bool cb := by have := List.mem_of_getElem? hv2; simpa using this
              cases cb
              focus
                refine x_if (h := ?_)
                refine t_cmp (h := ?_)
                refine e_var (h := ?_)
                refine IfExp_ ?_
                refine t_cmp (h := ?_)
                refine e_var (h := ?_)
                refine PyProof.Rows.Constant_none ?_
                refine PyProof.Rows.is_int_none ?_
                refine truthy_b (h := ?_)
                refine if_f (hc := (by kernel_rfl!)) (h := ?_)
                refine e_cmp (h := ?_)
                refine e_var (h := ?_)
                refine e_int (h := ?_)
                refine eq_int ?_
                refine PyProof.Rows.isnot_bool ?_
                refine truthy_b (h := ?_)
                refine if_f (hc := (by kernel_rfl!)) (h := ?_)
                refine x_nil (h := ?_)
              rotate_left
              focus
                refine x_if (h := ?_)
                refine t_cmp (h := ?_)
                refine e_var (h := ?_)
                refine IfExp_ ?_
                refine t_cmp (h := ?_)
                refine e_var (h := ?_)
                refine PyProof.Rows.Constant_none ?_
                refine PyProof.Rows.is_int_none ?_
                refine truthy_b (h := ?_)
                refine if_f (hc := (by kernel_rfl!)) (h := ?_)
                refine e_cmp (h := ?_)
                refine e_var (h := ?_)
                refine e_int (h := ?_)
                refine eq_int ?_
                refine PyProof.Rows.isnot_bool ?_
                refine truthy_b (h := ?_)
                refine if_f (hc := (by kernel_rfl!)) (h := ?_)
                refine x_nil (h := ?_)
              rotate_left
              all_goals (rename Fr g L _ _ => F9; rename News g L _ _ => N9; exact hQT2 _ _ (turn_next F9 N9 hne2 ⟨_, rfl, rfl⟩))
            case done2 =>
              clear F9 N9 N8
              rintro vals' news' h' tk' ⟨u4, rfl, rfl⟩ F' N'
              show wpAny _ _ (execs _ _) _ _ _
              refine x_nil (h := ?_)
              exact hQT _ _ (turn_next F' (N'.perm (by kd_all)) hne1 ⟨_, _, _, rfl, rfl⟩)
      case done =>
        clear F6 N7
        rintro vals' news' h' tk' ⟨u2, u3, u4, rfl, rfl⟩ F' N'
        show wpAny _ _ (execs _ _) _ _ _
        refine x_ret (h := ?_)
        refine e_bool (h := ?_)
        exact hq _ _ (back F' (N'.perm (by kd_all)) rfl ⟨rfl, o2, _, _, hd2, by omega, by omega, rfl⟩)
/- EvB -/
set_option maxHeartbeats 16000000 in
theorem evalall_does (w : World) {D U : Nat} (hD : D < 580) (hU : U < 1180) {a : BA} {b : BS} {rest news : Led} {md l : Addr} {oS : Obj} {vs : List Value} {roots : List Nat} {nl : Nat} {ρ : Nat → Bool} {x : MD}
  (hA : a.Ok) (hB : Bank w rest b) (wf : Wf b.T) (hlen : b.T.length ≤ 13) (hsub : ∀ p ∈ BL a b ++ rest, p ∈ news) (hM : MOk w a.bk md ρ news x) (hsw : ∃ u0 u1 u2 nz, a.swO = listOf [Value.int 0 u0, .int 0 u1, .int 0 u2].toArray nz) (hfr : ∃ u0 u1 u2 nz, a.frO = listOf [Value.int 0 u0, .int 0 u1, .int 0 u2].toArray nz)
  (hl : (l, oS) ∈ news) (ho : oS = listOf vs.toArray nl ∨ oS = tup vs nl) (hi : IntsAre vs (ni roots)) (hz : roots.length ≤ 1000) (hr : ∀ x ∈ roots, Tn b.T x) :
  Does w 914 [.ref a.bk, .ref md, .ref l] D U news (fun v news' => ∃ D n, v = .ref D ∧ news' = (D, listOf (roots.map (fun r => Value.bool (ev ρ b.T r))).toArray n) :: news ∧ ∀ p ∈ news, p.1 ≠ D) := by
  refine' does_introC (names := [Str.ofString "bank", Str.ofString "model", Str.ofString "some", Str.ofString "part", Str.ofString "values"]) (binds := [(Str.ofString "bank", .ref a.bk), (Str.ofString "model", .ref md), (Str.ofString "some", .ref l)]) (vals := [some (.ref a.bk), some (.ref md), some (.ref l), none, none]) (cl := fun n => [(Str.ofString "known", n)]) ?hcl ?ho ?hcd ?hD ?hbind ?hvals ?hin ?hall ?hnd ?hkinds ?hndc ?hco ?hgen ?hk ?body
  case ho => k_is
  case hcd => k_is
  case hD => omega
  case hcl => exact fun _ => rfl
  case hbind => exact rfl
  case hvals => exact rfl
  case hin => kernel_rfl!
  case hall => kernel_rfl!
  case hnd => decide +kernel
  case hkinds => kernel_rfl!
  case hndc => decide +kernel
  case hco => exact rfl
  case hgen => exact rfl
  case hk => exact rfl
  intro K A0 base mean mg mb g L h gs dr os tk0 Q cells lv B X T F N Y lt hdp hun hq
  have hd1 := Nat.lt_of_le_of_lt hdp (Nat.add_lt_add_right hD 1)
  have hu1 := Nat.lt_of_le_of_lt hun (Nat.add_lt_add_right hU 3)
  show wpAny _ _ (execs (_ :: _) _) _ _ _
  have v0 := lv 0 (Str.ofString "bank") rfl
  have v1 := lv 1 (Str.ofString "model") rfl
  have v2 := lv 2 (Str.ofString "some") rfl
  have v3 := lv 3 (Str.ofString "part") rfl
  have v4 := lv 4 (Str.ofString "values") rfl
  clear lv
  obtain ⟨oc, rfl, hoc0⟩ := Y.one
  have hoc : oc.data = .cell none := hoc0.trans (congrArg Data.cell (by kernel_rfl!))
  clear hoc0 Y
  dsimp only [List.cons_append, List.nil_append] at N
  have q_op : getL (Str.ofString "op") a.es = some none := hA.no "op" (by decide)
  have q_data : getL (Str.ofString "data") a.es = some none := hA.no "data" (by decide)
  have q_args : getL (Str.ofString "args") a.es = some none := hA.no "args" (by decide)
  have q_poa : getL (Str.ofString "parts_of_all") a.es = some none := hA.no "parts_of_all" (by decide)
  have hbk := hsub _ (.head _)
  have hbd := hsub _ (.tail _ (.head _))
  have hi1 := hM.i
  have hd1 := hM.d
  have hn2 := hM.n2
  have offc : OwnOff news [L + 1] := fun p hp x hx => by rw [List.mem_singleton.mp hx]; exact Nat.ne_of_lt (Nat.lt_succ_of_lt (lt p hp))
  refine x_asg (h := ?_)
  refine n_dict (h := ?_); walk_at "p3"
  refine s_cell (h := ?_); walk_at "p4"
  refine x_for (hs := by (intro v; with_unfolding_all rfl)) (h := ?_)
  refine e_mcall1 (hk := mk_parts_of_all _) (h := ?_)
  (refine' Does.use' (parts_does _ ?hDz14 ?hUz14 ?hAz14 ?hBz14 ?wfz14 ?hlenz14 ?hsubz14 ?hlz14 ?hoz14 ?hiz14 ?hrz14) ?haz14 ?Bz14 ?Xz14 ?Tz14 ?Fz14 ?Nz14 ?hkz14 (Nat.le_refl _) (Nat.le_refl _) ?_; (case Nz14 => assumption); (case hAz14 => assumption); (case hBz14 => assumption); (case wfz14 => assumption); (case haz14 => exact rfl); (case hDz14 => omega); (case hUz14 => omega); (case hlenz14 => omega); (case hsubz14 => kst_all); (case hlz14 => k_mem); (case hoz14 => first | assumption | exact Or.inr rfl | exact Or.inl rfl); (case hiz14 => assumption); (case hrz14 => assumption); (case Bz14 => assumption); (case Xz14 => assumption); (case Tz14 => assumption); (case Fz14 => assumption); (case hkz14 => exact rfl)); walk_at "p5"
  rename_i Kd hx1 oD0 lK lo' hd0 hx2 oc' hoc' hx3 tkx F2 Pl fs vsP nP lP hP hT N2
  obtain ⟨lK1, lK2⟩ := lK
  obtain ⟨lP1, lP2, lP3⟩ := lP
  have offK : OwnOff news [Kd] := fun p hp x hx => by rw [List.mem_singleton.mp hx]; exact Nat.ne_of_lt (AllLt.mem lK2 p hp)
  have N3 : News g L _ ((Kd, oD0) :: (Pl, listOf vsP.toArray nP) :: (L + 1, oc') :: news) := N2.perm (by
    intro p hp
    simp only [List.mem_cons] at hp ⊢
    rcases hp with hp | hp | hp | hp
    · exact .inr (.inl hp)
    · exact .inl hp
    · exact .inr (.inr (.inl hp))
    · exact .inr (.inr (.inr hp)))
  have hfl : fs.length ≤ 13 := Nat.le_trans (nodup_len hT.nd fun x hx => (hT.tn x hx).2) hlen
  refine p_list rfl F2 N3 (.tail _ (.head _)) v3 (fun k vals' news' => ∃ oD kvs u3 u4, vals' = [some (.ref a.bk), some (.ref md), some (.ref l), u3, u4] ∧ news' = (Kd, oD) :: (Pl, listOf vsP.toArray nP) :: (L + 1, oc') :: news ∧ oD.IsDictOf (PySem.intKind PRG w) kvs ∧ Kn (fun c v => v = .bool (ev ρ b.T c)) kvs (fs.take k) k) ?start ?hJl ?hJn ?turn ?done
  case start => exact ⟨oD0, [], _, _, rfl, rfl, hd0, by rw [List.take_zero]; exact Kn.nil⟩
  case hJl => rintro k vals' news' ⟨oD, kvs, u3, u4, rfl, rfl, _⟩; exact .tail _ (.head _)
  case hJn => rintro k vals' news' ⟨oD, kvs, u3, u4, rfl, _⟩; rfl
  case turn =>
    clear N2 F2 N3
    rintro k v vals1 news1 h1 tk1 I oI hv ⟨oD, kvs, u3, u4, rfl, rfl, hD1, hKn⟩ hne F1 N1 QT hQT
    dsimp only [List.set_cons_succ, List.set_cons_zero] at F1
    obtain ⟨x', tx, hxk, rfl⟩ := ints_get hP hv
    have hxT := hT.tn x' (List.mem_of_getElem? hxk)
    obtain ⟨kk, hkk⟩ := hxT.key
    have hcl := hT.cl k x' kk hxk hkk
    have hok := wf.ok x' kk hkk hxT.1
    have hkl := hKn.len
    have hk13 : k < 13 := Nat.lt_of_lt_of_le (get_lt hxk) hfl
    have hIK : @Ne Nat Kd I := hne _ (.head _)
    refine x_lcL F1 v4 rfl (by with_unfolding_all rfl) (by with_unfolding_all rfl) (by decide) rfl (by decide) rfl (fun _ => by with_unfolding_all rfl) ?_
    refine e_mcall1 (hk := mk_args _) (h := ?_)
    (refine' Does.use' (args_does _ ?hDz15 ?hUz15 ?hAz15 ?hBz15 ?hlenz15 ?hsubz15 ?htz15) ?haz15 ?Bz15 ?Xz15 ?Tz15 ?Fz15 ?Nz15 ?hkz15 (Nat.le_refl _) (Nat.le_refl _) ?_; (case Nz15 => assumption); (case hAz15 => assumption); (case hBz15 => assumption); (case haz15 => exact rfl); (case hDz15 => omega); (case hUz15 => omega); (case hlenz15 => omega); (case htz15 => assumption); (case hsubz15 => kst_all); (case Bz15 => assumption); (case Xz15 => assumption); (case Tz15 => assumption); (case Fz15 => assumption); (case hkz15 => exact rfl)); rintro _ _ _ _ _ _ ⟨⟨_, rfl, _⟩, rfl⟩; k_sweep
    rename IntTup rest _ _ => hcA
    obtain ⟨vsA, nA, hmA, hiA⟩ := hcA
    have hmN := hsub _ (List.mem_append_right _ hmA)
    have hlA : vsA.length ≤ 3 := by rw [hiA.length]; exact hok.len3
    refine lc_pure (vs := vsA) (ws := (kk.2.1.map fun x => ev ρ b.T x.toNat).map Value.bool) rfl (by assumption) (by assumption) (by k_mem) (Or.inr rfl) (by omega) (by rw [List.length_map, List.length_map, hiA.length]) ?he ?hK
    case he =>
      clear hq
      intro j v y I2 oI2 C oC D m2 h2 tk2 E' hv2 hy hns hm2 F3 N3
      obtain ⟨c, tc, hc, rfl⟩ := ints_at2 hiA hv2
      rw [List.getElem?_map, List.getElem?_map, hc] at hy
      obtain rfl := Option.some.inj hy
      have hca := hok.args c (List.mem_of_getElem? hc)
      obtain ⟨cn, rfl⟩ := Int.eq_ofNat_of_zero_le (show 0 ≤ c by have := hca.1; omega)
      obtain ⟨u, hu, rfl⟩ := hKn.at_ cn (hcl cn (List.mem_of_getElem? hc))
      refine Subscript_ ?_
      refine cv_cell (h := ?_)
      refine cv_local (hC := by (exact List.Mem.tail _ (List.Mem.head _))) (h := ?_)
      refine c_ditem (h := ?_) (hg := by (intro _; with_unfolding_all rfl))
      rename Fr g L _ _ => F4
      rename News g L _ _ => N4
      exact reads1 F4 N4
    case hK =>
      intro D h2 tk2 F4 N4 o1 h3 F5 N5
      clear F4 N4
      simp only [LCg.Off1] at o1
      obtain ⟨o1, o2, o3, o4, o5⟩ := o1
      dsimp only [List.set_cons_succ, List.set_cons_zero] at F5
      have hev := ev_eq (ρ := ρ) wf hkk hxT.1
      k_sweep
      by_cases happ : kk.1 = Str.ofString "app"
      · have : ∃ d : Nat, kk = (Str.ofString "app", [], (d : Int)) ∧ d < 3 := by
          cases hok with
          | app d _ hd => exact ⟨d, rfl, hd⟩
          | _ => (dsimp only at happ; exact absurd happ (by decide))
        obtain ⟨d, rfl, hd3⟩ := this
        rw [nv_app] at hev
        refine x_ife (h := ?_)
        refine t_cmp (h := ?_)
        refine e_mcall1 (hk := mk_op _) (h := ?_)
        (refine' Does.use' (op_does _ ?hDz16 ?hUz16 ?hAz16 ?hBz16 ?hlenz16 ?hsubz16 ?htz16) ?haz16 ?Bz16 ?Xz16 ?Tz16 ?Fz16 ?Nz16 ?hkz16 (Nat.le_refl _) (Nat.le_refl _) ?_; (case Nz16 => assumption); (case hAz16 => assumption); (case hBz16 => assumption); (case haz16 => exact rfl); (case hDz16 => omega); (case hUz16 => omega); (case hlenz16 => omega); (case htz16 => assumption); (case hsubz16 => kst_all); (case Bz16 => assumption); (case Xz16 => assumption); (case Tz16 => assumption); (case Fz16 => assumption); (case hkz16 => exact rfl)); rintro _ _ _ _ _ _ ⟨⟨_, rfl⟩, rfl⟩; k_sweep; (try dsimp only)
        refine e_str (h := ?_)
        refine eq_str ?_
        refine truthy_b (h := ?_)
        refine if_t (hc := (by kernel_rfl!)) (h := ?_)
        refine x_setsub (h := ?_)
        refine e_mcall (hk := mm_call _) (h := ?_)
        refine wa_cons (h := ?_)
        refine e_mcall1 (hk := mk_data _) (h := ?_)
        (refine' Does.use' (data_does _ ?hDz17 ?hUz17 ?hAz17 ?hBz17 ?hlenz17 ?hsubz17 ?htz17) ?haz17 ?Bz17 ?Xz17 ?Tz17 ?Fz17 ?Nz17 ?hkz17 (Nat.le_refl _) (Nat.le_refl _) ?_; (case Nz17 => assumption); (case hAz17 => assumption); (case hBz17 => assumption); (case haz17 => exact rfl); (case hDz17 => omega); (case hUz17 => omega); (case hlenz17 => omega); (case htz17 => assumption); (case hsubz17 => kst_all); (case Bz17 => assumption); (case Xz17 => assumption); (case Tz17 => assumption); (case Fz17 => assumption); (case hkz17 => exact rfl)); rintro _ _ _ _ _ _ ⟨⟨_, rfl⟩, rfl⟩; k_sweep; (try dsimp only)
        refine wa_cons (h := ?_)
        refine e_tcall (hk := (bk_tuple _)) (hb := bb_tuple) (hne := bn_tuple) (h := ?_)
        refine wa_v1 (h := ?_)
        refine c_tupl (hz := by (first | exact Nat.le_of_ble_eq_true rfl | omega)) (h := ?_); walk_at "p1"
        refine wa_nil (h := ?_)
        refine ⟨In.of (by with_reducible assumption) (by with_reducible assumption), ?_⟩
        (refine' Does.use' (call_does _ ?hDz18 ?hUz18 ?hAz18 ?hBz18 ?hlenz18 ?hsubz18 (MOk.mono ?hMz18 ?hMsz18) ?hnz18 ?hswz18 ?hcz18) ?haz18 ?Bz18 ?Xz18 ?Tz18 ?Fz18 ?Nz18 ?hkz18 (Nat.le_refl _) (Nat.le_refl _) ?_; (case Nz18 => assumption); (case hAz18 => assumption); (case hBz18 => assumption); (case hMz18 => assumption); (case hMsz18 => kst_all); (case haz18 => exact rfl); (case hDz18 => omega); (case hUz18 => omega); (case hlenz18 => omega); (case hsubz18 => kst_all); (case hnz18 => omega); (case hswz18 => assumption); (case hcz18 => exact ⟨_, _, List.mem_cons_self, IntsAre.nil⟩); (case Bz18 => assumption); (case Xz18 => assumption); (case Tz18 => assumption); (case Fz18 => assumption); (case hkz18 => exact rfl)); rintro _ _ _ _ _ _ ⟨rfl, rfl⟩; k_sweep
        refine e_cell (h := ?_)
        refine e_var (h := ?_)
        refine c_dset (hsz := by (first | omega | (simp only [List.length_map]; omega))) (h := ?_); walk_at "p7"
        refine x_nil_thn (h := ?_)
        refine x_nil (h := ?_)
        rename Fr g L _ _ => F6
        rename News g L _ _ => N6
        rename Obj.IsDictOf _ _ (stored _ _ _) => hD6
        refine hQT _ _ (turn_next F6 (N6.perm (news' := (I, oI) :: (Kd, _) :: (Pl, listOf vsP.toArray nP) :: (L + 1, oc') :: news) (by kd_all)) ?_ ⟨_, _, _, _, rfl, rfl, hD6, ?_⟩)
        · intro p hp
          rcases List.mem_cons.mp hp with hp | hp
          · rw [hp]; exact hIK
          · exact hne p (.tail _ hp)
        · rw [take_snoc hxk]; exact hKn.add (by rw [hev])
      · have happ' : (kk.1 == Str.ofString "app") = false := by rw [beq_eq_false_iff_ne]; exact happ
        rw [nv_irrel (ρ' := fun _ => false) hok happ] at hev
        refine x_ife (h := ?_)
        refine t_cmp (h := ?_)
        refine e_mcall1 (hk := mk_op _) (h := ?_)
        (refine' Does.use' (op_does _ ?hDz19 ?hUz19 ?hAz19 ?hBz19 ?hlenz19 ?hsubz19 ?htz19) ?haz19 ?Bz19 ?Xz19 ?Tz19 ?Fz19 ?Nz19 ?hkz19 (Nat.le_refl _) (Nat.le_refl _) ?_; (case Nz19 => assumption); (case hAz19 => assumption); (case hBz19 => assumption); (case haz19 => exact rfl); (case hDz19 => omega); (case hUz19 => omega); (case hlenz19 => omega); (case htz19 => assumption); (case hsubz19 => kst_all); (case Bz19 => assumption); (case Xz19 => assumption); (case Tz19 => assumption); (case Fz19 => assumption); (case hkz19 => exact rfl)); rintro _ _ _ _ _ _ ⟨⟨_, rfl⟩, rfl⟩; k_sweep; (try dsimp only)
        refine e_str (h := ?_)
        refine eq_str ?_
        refine truthy_b (h := ?_)
        refine if_f (hc := (by kst_p2)) (h := ?_)
        refine x_setsub (h := ?_)
        refine e_gcall (hk := fk_worked_out _) (h := ?_)
        refine wa_v (h := ?_)
        refine wa_v (h := ?_)
        refine wa_v1 (h := ?_)
        refine ⟨In.of (by with_reducible assumption) (by with_reducible assumption), ?_⟩
        (refine' Does.use' (worked_does _ (ρ := fun _ => false) ?hDz20 ?hUz20 ?hAz20 ?hBz20 ?wfz20 ?hlenz20 ?hsubz20 ?hswz20 ?htz20 ?hn1z20 ?happz20 ?hlz20) ?haz20 ?Bz20 ?Xz20 ?Tz20 ?Fz20 ?Nz20 ?hkz20 (Nat.le_refl _) (Nat.le_refl _) ?_; (case Nz20 => assumption); (case hAz20 => assumption); (case hBz20 => assumption); (case wfz20 => assumption); (case haz20 => exact rfl); (case hDz20 => omega); (case hUz20 => omega); (case hlenz20 => omega); (case hsubz20 => kst_all); (case hswz20 => assumption); (case htz20 => assumption); (case hn1z20 => omega); (case happz20 => assumption); (case hlz20 => k_mem); (case Bz20 => assumption); (case Xz20 => assumption); (case Tz20 => assumption); (case Fz20 => assumption); (case hkz20 => exact rfl)); rintro _ _ _ _ _ _ ⟨rfl, rfl⟩; k_sweep
        refine e_cell (h := ?_)
        refine e_var (h := ?_)
        refine c_dset (hsz := by (first | omega | (simp only [List.length_map]; omega))) (h := ?_); walk_at "p7"
        refine x_nil_thn (h := ?_)
        refine x_nil (h := ?_)
        rename Fr g L _ _ => F6
        rename News g L _ _ => N6
        rename Obj.IsDictOf _ _ (stored _ _ _) => hD6
        refine hQT _ _ (turn_next F6 (N6.perm (news' := (I, oI) :: (Kd, _) :: (Pl, listOf vsP.toArray nP) :: (L + 1, oc') :: news) (by kd_all)) ?_ ⟨_, _, _, _, rfl, rfl, hD6, ?_⟩)
        · intro p hp
          rcases List.mem_cons.mp hp with hp | hp
          · rw [hp]; exact hIK
          · exact hne p (.tail _ hp)
        · rw [take_snoc hxk]; exact hKn.add (by rw [hev])
  case done =>
    clear N2 F2 N3
    rintro vals' news' h' tk' ⟨oD, kvs, u3, u4, rfl, rfl, hD1, hKn⟩ F' N'
    have hlk : vsP.length = fs.length := by rw [hP.length]; unfold ni; rw [List.length_map]
    rw [hlk, List.take_length] at hKn
    show wpAny _ _ (execs _ _) _ _ _
    refine x_ret (h := ?_)
    refine e_lc F' (by with_unfolding_all rfl) (by decide) rfl (by decide) rfl (fun _ => by with_unfolding_all rfl) ?_
    refine e_var (h := ?_)
    refine lc_pure (vs := vs) (ws := roots.map (fun r => Value.bool (ev ρ b.T r))) rfl (by assumption) (by assumption) (by k_mem) ho (by rw [hi.length]; unfold ni; rw [List.length_map]; omega) (by rw [List.length_map, hi.length]; unfold ni; rw [List.length_map]) ?he ?hK
    case he =>
      clear hq
      intro j v y I2 oI2 C oC D m2 h2 tk2 E' hv2 hy hns hm2 F3 N3
      obtain ⟨c, tc, hc, rfl⟩ := ints_get hi hv2
      rw [List.getElem?_map, hc] at hy
      obtain rfl := Option.some.inj hy
      obtain ⟨u, hu, rfl⟩ := hKn.at_ c (hT.rt c (List.mem_of_getElem? hc))
      refine Subscript_ ?_
      refine cv_cell (h := ?_)
      refine cv_local (hC := by (exact List.Mem.tail _ (List.Mem.head _))) (h := ?_)
      refine c_ditem (h := ?_) (hg := by (intro _; with_unfolding_all rfl))
      rename Fr g L _ _ => F4
      rename News g L _ _ => N4
      exact reads1 F4 N4
    case hK =>
      intro D h2 tk2 F4 N4 o1
      simp only [LCg.Off1] at o1
      obtain ⟨o1, o2, o3, o4⟩ := o1
      refine hq _ _ (back F4 (N4.perm (fun p hp => by
        rcases List.mem_cons.mp hp with e | hp
        · exact e ▸ .head _
        · exact .tail _ (.tail _ (.tail _ (.tail _ hp))))) rfl ⟨D, _, rfl, rfl, off1_mem o4⟩)
/- EvC -/
set_option maxHeartbeats 8000000 in
theorem evaluate_does (w : World) {D U : Nat} (hD : D < 578) (hU : U < 1170) {a : BA} {b : BS} {rest news : Led} {md : Addr} {ρ : Nat → Bool} {x : MD} {n : Nat} {tn : Tok}
  (hA : a.Ok) (hB : Bank w rest b) (wf : Wf b.T) (hlen : b.T.length ≤ 13) (hsub : ∀ p ∈ BL a b ++ rest, p ∈ news) (hM : MOk w a.bk md ρ news x) (hsw : ∃ u0 u1 u2 nz, a.swO = listOf [Value.int 0 u0, .int 0 u1, .int 0 u2].toArray nz) (hfr : ∃ u0 u1 u2 nz, a.frO = listOf [Value.int 0 u0, .int 0 u1, .int 0 u2].toArray nz) (hn : Tn b.T n) :
  Does w 909 [.ref a.bk, .ref md, .int n tn] D U news (fun v news' => v = .bool (ev ρ b.T n) ∧ news' = news) := by
  refine' does_intro' (names := [Str.ofString "bank", Str.ofString "model", Str.ofString "t"]) (k := 0) (vals := [some (.ref a.bk), some (.ref md), some (.int n tn)]) ?hvals ?ho ?hcd ?hD ?hbind ?hall ?hnd ?hco ?hgen ?hk ?hcell ?body
  tb_start
  intro K A0 base mean mg mb g L h gs dr os tk0 Q lv B X T F N lt hdp hun hq
  have hd1 := Nat.lt_of_le_of_lt hdp (Nat.add_lt_add_right hD 1)
  have hu1 := Nat.lt_of_le_of_lt hun (Nat.add_lt_add_right hU 3)
  show wpAny _ _ (execs (_ :: _) _) _ _ _
  have v0 := lv 0 (Str.ofString "bank") rfl
  have v1 := lv 1 (Str.ofString "model") rfl
  have v2 := lv 2 (Str.ofString "t") rfl
  clear lv
  refine x_ret (h := ?_)
  refine Subscript_ ?_
  refine e_gcall (hk := fk_evaluate_all _) (h := ?_)
  refine wa_v (h := ?_)
  refine wa_v (h := ?_)
  refine wa_cons (h := ?_)
  refine e_tup (h := ?_)
  refine wa_v1 (h := ?_)
  refine n_tup (h := ?_); walk_at "p1"
  refine wa_nil (h := ?_)
  refine ⟨In.of (by with_reducible assumption) (by with_reducible assumption), ?_⟩
  (refine' Does.use' (evalall_does _ (roots := [_]) ?hDz21 ?hUz21 ?hAz21 ?hBz21 ?wfz21 ?hlenz21 ?hsubz21 (MOk.mono ?hMz21 ?hMsz21) ?hswz21 ?hfrz21 ?hlz21 ?hoz21 ?hiz21 ?hzz21 ?hrz21) ?haz21 ?Bz21 ?Xz21 ?Tz21 ?Fz21 ?Nz21 ?hkz21 (Nat.le_refl _) (Nat.le_refl _) ?_; (case Nz21 => assumption); (case hAz21 => assumption); (case hBz21 => assumption); (case wfz21 => assumption); (case hMz21 => assumption); (case hMsz21 => kst_all); (case haz21 => exact rfl); (case hDz21 => omega); (case hUz21 => omega); (case hlenz21 => omega); (case hsubz21 => kst_all); (case hswz21 => assumption); (case hfrz21 => assumption); (case hlz21 => k_mem); (case hoz21 => exact Or.inr rfl); (case hiz21 => exact IntsAre.cons _ _ IntsAre.nil); (case hzz21 => exact Nat.le_of_ble_eq_true rfl); (case hrz21 => intro x hx; rw [List.mem_singleton.mp hx]; assumption); (case Bz21 => assumption); (case Xz21 => assumption); (case Tz21 => assumption); (case Fz21 => assumption); (case hkz21 => exact rfl)); rintro _ _ _ _ _ N' ⟨_, _, rfl, rfl, _⟩; (try simp only [List.map_cons, List.map_nil] at N'); k_sweep
  refine e_int (h := ?_)
  refine c_itemL (h := ?_)
  show Q (Flow.ret _) _
  rename News g L _ _ => N9
  exact hq _ _ (back (by assumption) (N9.perm (by kst_all)) rfl ⟨rfl, rfl⟩)
/- EvD -/
set_option maxHeartbeats 8000000 in
theorem value_does (w : World) {D U : Nat} (hD : D < 576) (hU : U < 1160) {a : BA} {b : BS} {rest news : Led} {md : Addr} {ρ : Nat → Bool} {x : MD} {n : Nat} {tn : Tok}
  (hA : a.Ok) (hB : Bank w rest b) (wf : Wf b.T) (hlen : b.T.length ≤ 13) (hsub : ∀ p ∈ BL a b ++ rest, p ∈ news) (hM : MOk w a.bk md ρ news x) (hsw : ∃ u0 u1 u2 nz, a.swO = listOf [Value.int 0 u0, .int 0 u1, .int 0 u2].toArray nz) (hfr : ∃ u0 u1 u2 nz, a.frO = listOf [Value.int 0 u0, .int 0 u1, .int 0 u2].toArray nz) (hn : Tn b.T n) :
  Does w 855 [.ref md, .int n tn] D U news (fun v news' => v = .bool (ev ρ b.T n) ∧ news' = news) := by
  refine' does_intro' (names := [Str.ofString "self", Str.ofString "t"]) (k := 0) (vals := [some (.ref md), some (.int n tn)]) ?hvals ?ho ?hcd ?hD ?hbind ?hall ?hnd ?hco ?hgen ?hk ?hcell ?body
  tb_start
  intro K A0 base mean mg mb g L h gs dr os tk0 Q lv B X T F N lt hdp hun hq
  have hd1 := Nat.lt_of_le_of_lt hdp (Nat.add_lt_add_right hD 1)
  have hu1 := Nat.lt_of_le_of_lt hun (Nat.add_lt_add_right hU 3)
  show wpAny _ _ (execs (_ :: _) _) _ _ _
  have v0 := lv 0 (Str.ofString "self") rfl
  have v1 := lv 1 (Str.ofString "t") rfl
  clear lv
  have hi1 := hM.i
  have hd1 := hM.d
  have hb1 := hM.gb
  refine x_ret (h := ?_)
  refine e_gcall (hk := fk_evaluate _) (h := ?_)
  refine wa_cons (h := ?_)
  refine e_attr (hk := am_bank _) (h := ?_)
  refine wa_v (h := ?_)
  refine wa_v1 (h := ?_)
  refine ⟨In.of (by with_reducible assumption) (by with_reducible assumption), ?_⟩
  (refine' Does.use' (evaluate_does _ ?hDz85 ?hUz85 ?hAz85 ?hBz85 ?wfz85 ?hlenz85 ?hsubz85 (MOk.mono ?hMz85 ?hMsz85) ?hswz85 ?hfrz85 ?hrz85) ?haz85 ?Bz85 ?Xz85 ?Tz85 ?Fz85 ?Nz85 ?hkz85 (Nat.le_refl _) (Nat.le_refl _) ?_; (case Nz85 => assumption); (case hAz85 => assumption); (case hBz85 => assumption); (case wfz85 => assumption); (case hMz85 => assumption); (case hMsz85 => kst_all); (case haz85 => exact rfl); (case hDz85 => omega); (case hUz85 => omega); (case hlenz85 => omega); (case hsubz85 => kst_all); (case hswz85 => assumption); (case hfrz85 => assumption); (case hrz85 => assumption); (case Bz85 => assumption); (case Xz85 => assumption); (case Tz85 => assumption); (case Fz85 => assumption); (case hkz85 => exact rfl)); rintro _ _ _ _ _ _ ⟨rfl, rfl⟩; k_sweep
  show Q (Flow.ret _) _
  exact hq _ _ (back (by assumption) (by assumption) rfl ⟨rfl, rfl⟩)
/- Lv -/
set_option maxHeartbeats 16000000 in
theorem values_does (w : World) {D U : Nat} (hD : D < 580) (hU : U < 1180) {a : BA} {b : BS} {rest news0 : Led} {kd : Addr} {o : Obj} {kvs : List (Int × Value)} {n : Nat} {tn : Tok} {ρ : Nat → Bool}
  (hA : a.Ok) (hB : Bank w rest b) (wf : Wf b.T) (hlen : b.T.length ≤ 13) (hsub : ∀ p ∈ BL a b ++ rest, p ∈ news0) (hn : Tn b.T n)
  (hd0 : o.IsDictOf (PySem.intKind PRG w) kvs) (hlo : (kd == sysModules) = false) (hK0 : Kv (VT ρ b.T) kvs [3, 4, 5] 3) (off : OwnOff news0 [kd]) :
  Does w 945 [.ref a.bk, .ref kd, .int n tn] D U ((kd, o) :: news0) (fun v news' => v = .ref kd ∧ ∃ o' kvs' fs, news' = (kd, o') :: news0 ∧ o'.IsDictOf (PySem.intKind PRG w) kvs' ∧ Kv (VT ρ b.T) kvs' ([3, 4, 5] ++ fs) 16 ∧ Topo b.T [n] fs) := by
  refine' does_introC (names := [Str.ofString "bank", Str.ofString "t", Str.ofString "part", Str.ofString "word", Str.ofString "lot"]) (binds := [(Str.ofString "bank", .ref a.bk), (Str.ofString "known", .ref kd), (Str.ofString "t", .int n tn)]) (vals := [some (.ref a.bk), some (.int n tn), none, none, none]) (cl := fun n => [(Str.ofString "known", n)]) ?hcl ?ho ?hcd ?hD ?hbind ?hvals ?hin ?hall ?hnd ?hkinds ?hndc ?hco ?hgen ?hk ?body
  case ho => k_is
  case hcd => k_is
  case hD => omega
  case hcl => exact fun _ => rfl
  case hbind => exact rfl
  case hvals => exact rfl
  case hin => kernel_rfl!
  case hall => kernel_rfl!
  case hnd => decide +kernel
  case hkinds => kernel_rfl!
  case hndc => decide +kernel
  case hco => exact rfl
  case hgen => exact rfl
  case hk => exact rfl
  intro K A0 base mean mg mb g L h gs dr os tk0 Q cells lv B X T F N Y lt hdp hun hq
  have hd1 := Nat.lt_of_le_of_lt hdp (Nat.add_lt_add_right hD 1)
  have hu1 := Nat.lt_of_le_of_lt hun (Nat.add_lt_add_right hU 3)
  show wpAny _ _ (execs (_ :: _) _) _ _ _
  have v0 := lv 0 (Str.ofString "bank") rfl
  have v1 := lv 1 (Str.ofString "t") rfl
  have v2 := lv 2 (Str.ofString "part") rfl
  have v3 := lv 3 (Str.ofString "word") rfl
  have v4 := lv 4 (Str.ofString "lot") rfl
  clear lv
  obtain ⟨oc, rfl, hoc0⟩ := Y.one
  have hoc : oc.data = .cell (some (.ref kd)) := hoc0.trans (congrArg Data.cell (by kernel_rfl!))
  clear hoc0 Y
  dsimp only [List.cons_append, List.nil_append] at N
  have hkL : @LT.lt Nat _ kd L := lt (kd, o) (.head _)
  have N1 : News g L h ((kd, o) :: (L + 1, oc) :: news0) := N.perm (by kd_all)
  clear N
  have q_op : getL (Str.ofString "op") a.es = some none := hA.no "op" (by decide)
  have q_args : getL (Str.ofString "args") a.es = some none := hA.no "args" (by decide)
  have q_parts : getL (Str.ofString "parts") a.es = some none := hA.no "parts" (by decide)
  have hbk := hsub _ (.head _)
  have hbd := hsub _ (.tail _ (.head _))
  have hl6 := wf.len
  refine x_for (hs := by (intro v; with_unfolding_all rfl)) (h := ?_)
  refine e_mcall1 (hk := mk_parts _) (h := ?_)
  (refine' Does.use' (parts1_does _ ?hDz45 ?hUz45 ?hAz45 ?hBz45 ?wfz45 ?hlenz45 ?hsubz45 ?hrz45) ?haz45 ?Bz45 ?Xz45 ?Tz45 ?Fz45 ?Nz45 ?hkz45 (Nat.le_refl _) (Nat.le_refl _) ?_; (case Nz45 => assumption); (case hAz45 => assumption); (case hBz45 => assumption); (case wfz45 => assumption); (case haz45 => exact rfl); (case hDz45 => omega); (case hUz45 => omega); (case hlenz45 => omega); (case hsubz45 => kst_all); (case hrz45 => assumption); (case Bz45 => assumption); (case Xz45 => assumption); (case Tz45 => assumption); (case Fz45 => assumption); (case hkz45 => exact rfl)); walk_at "p5"
  rename Topo _ _ _ => hT
  rename IntsAre _ _ => hP
  rename Fr g L _ _ => F2
  rename News g L _ _ => N2
  rename _ ∧ _ ∧ AllLt _ _ => lP
  obtain ⟨lP1, lP2, lP3⟩ := lP
  rename_i Pl fs vsP nP
  have offP : OwnOff news0 [kd] := off
  have N3 : News g L _ ((kd, o) :: (Pl, listOf vsP.toArray nP) :: (L + 1, oc) :: news0) := N2.perm (by kd_all)
  have hfl : fs.length ≤ 13 := Nat.le_trans (nodup_len hT.nd fun x hx => (hT.tn x hx).2) hlen
  refine p_list rfl F2 N3 (.tail _ (.head _)) v2 (fun k vals' news' => ∃ oD kvs u2 u3 u4, vals' = [some (.ref a.bk), some (.int n tn), u2, u3, u4] ∧ news' = (kd, oD) :: (Pl, listOf vsP.toArray nP) :: (L + 1, oc) :: news0 ∧ oD.IsDictOf (PySem.intKind PRG w) kvs ∧ Kv (VT ρ b.T) kvs ([3, 4, 5] ++ fs.take k) (3 + k)) ?start ?hJl ?hJn ?turn ?done
  case start => exact ⟨o, kvs, _, _, _, rfl, rfl, hd0, by rw [List.take_zero]; exact hK0⟩
  case hJl => rintro k vals' news' ⟨oD, kvs, u2, u3, u4, rfl, rfl, _⟩; exact .tail _ (.head _)
  case hJn => rintro k vals' news' ⟨oD, kvs, u2, u3, u4, rfl, _⟩; rfl
  case turn =>
    clear N2 F2 N3 hd0 hK0
    (try clear N1)
    (try clear F)
    rintro k v vals1 news1 h1 tk1 I oI hv ⟨oD, kvs, u2, u3, u4, rfl, rfl, hD1, hKv⟩ hne F1 N1 QT hQT
    dsimp only [List.set_cons_succ, List.set_cons_zero] at F1
    obtain ⟨x', tx, hxk, rfl⟩ := ints_get hP hv
    have hxT := hT.tn x' (List.mem_of_getElem? hxk)
    obtain ⟨kk, hkk⟩ := hxT.key
    have hcl := hT.cl k x' kk hxk hkk
    have hok := wf.ok x' kk hkk hxT.1
    have hkl := hKv.len
    have hk13 : k < 13 := Nat.lt_of_lt_of_le (get_lt hxk) hfl
    have hIK : @Ne Nat kd I := hne _ (.head _)
    have hkv : kvs.length ≤ 100000 := by omega
    refine x_asgTs (h := ?_)
    refine e_tup (h := ?_)
    refine wa_cons (h := ?_)
    refine e_mcall1 (hk := mk_op _) (h := ?_)
    (refine' Does.use' (op_does _ ?hDz46 ?hUz46 ?hAz46 ?hBz46 ?hlenz46 ?hsubz46 ?htz46) ?haz46 ?Bz46 ?Xz46 ?Tz46 ?Fz46 ?Nz46 ?hkz46 (Nat.le_refl _) (Nat.le_refl _) ?_; (case Nz46 => assumption); (case hAz46 => assumption); (case hBz46 => assumption); (case haz46 => exact rfl); (case hDz46 => omega); (case hUz46 => omega); (case hlenz46 => omega); (case htz46 => assumption); (case hsubz46 => kst_all); (case Bz46 => assumption); (case Xz46 => assumption); (case Tz46 => assumption); (case Fz46 => assumption); (case hkz46 => exact rfl)); rintro _ _ _ _ _ _ ⟨⟨_, rfl⟩, rfl⟩; k_sweep; (try dsimp only)
    refine wa_cons (h := ?_)
    refine e_lc (by assumption) (by with_unfolding_all rfl) (by decide) rfl (by decide) rfl (fun _ => by with_unfolding_all rfl) ?_
    refine e_mcall1 (hk := mk_args _) (h := ?_)
    (refine' Does.use' (args_does _ ?hDz47 ?hUz47 ?hAz47 ?hBz47 ?hlenz47 ?hsubz47 ?htz47) ?haz47 ?Bz47 ?Xz47 ?Tz47 ?Fz47 ?Nz47 ?hkz47 (Nat.le_refl _) (Nat.le_refl _) ?_; (case Nz47 => assumption); (case hAz47 => assumption); (case hBz47 => assumption); (case haz47 => exact rfl); (case hDz47 => omega); (case hUz47 => omega); (case hlenz47 => omega); (case htz47 => assumption); (case hsubz47 => kst_all); (case Bz47 => assumption); (case Xz47 => assumption); (case Tz47 => assumption); (case Fz47 => assumption); (case hkz47 => exact rfl)); rintro _ _ _ _ _ _ ⟨⟨_, rfl, _⟩, rfl⟩; k_sweep
    rename IntTup rest _ _ => hcA
    obtain ⟨vsA, nA, hmA, hiA⟩ := hcA
    have hmN := hsub _ (List.mem_append_right _ hmA)
    have hlA : vsA.length ≤ 3 := by rw [hiA.length]; exact hok.len3
    have hget : ∀ x ∈ kk.2.1, ∃ t, (valueAt kvs x).getD .none = .int (bz (ev ρ b.T x.toNat)) t := by
      intro c hc
      have hca := hok.args c hc
      obtain ⟨cn, rfl⟩ := Int.eq_ofNat_of_zero_le (show 0 ≤ c by have := hca.1; omega)
      obtain ⟨u, hu, t, rfl⟩ := hKv.get (List.mem_append_right _ (hcl cn hc))
      exact ⟨t, by rw [hu]; rfl⟩
    have hws := kv_ints (f := ev ρ b.T) hget
    refine lc_pure (vs := vsA) (ws := kk.2.1.map fun x => (valueAt kvs x).getD .none) rfl (by assumption) (by assumption) (by k_mem) (Or.inr rfl) (by omega) (by rw [List.length_map, hiA.length]) ?he ?hK
    case he =>
      clear hq
      intro j v y I2 oI2 C oC D m2 h2 tk2 E' hv2 hy hns hm2 F3 N3
      obtain ⟨c, tc, hc, rfl⟩ := ints_at2 hiA hv2
      rw [List.getElem?_map, hc] at hy
      obtain rfl := Option.some.inj hy
      have hca := hok.args c (List.mem_of_getElem? hc)
      obtain ⟨cn, rfl⟩ := Int.eq_ofNat_of_zero_le (show 0 ≤ c by have := hca.1; omega)
      obtain ⟨u, hu, _⟩ := hKv.get (List.mem_append_right _ (hcl cn (List.mem_of_getElem? hc)))
      have hu2 : (valueAt kvs (cn : Int)).getD .none = u := by rw [hu]; rfl
      show wpAny _ _ _ (Reads1 _ _ _ _ _ _ _ ((valueAt kvs (cn : Int)).getD .none)) _ _
      rw [hu2]
      refine Subscript_ ?_
      refine cv_cell (h := ?_)
      refine cv_local (hC := by (exact List.Mem.tail _ (List.Mem.head _))) (h := ?_)
      refine c_ditem (h := ?_) (hg := by (intro _; with_unfolding_all rfl))
      rename Fr g L _ _ => F4
      rename News g L _ _ => N4
      exact reads1 F4 N4
    case hK =>
      intro D h2 tk2 F4 N4 o1
      simp only [LCg.Off1] at o1
      obtain ⟨o1, o2, o3, o4, o5⟩ := o1
      have hev := ev_eq (ρ := ρ) wf hkk hxT.1
      (try clear F1)
      (try clear N1)
      have offI : OwnOff ((L + 1, oc) :: news0) [kd] := offs off (by intro b hb; rw [List.mem_singleton.mp hb]; omega)
      k_sweep
      cases hin : (valueAt kvs (x' : Int)).isSome with
      | true =>
        refine wa_nil (h := ?_)
        refine n_tup (h := ?_); walk_at "p1"
        refine u_tup (h := ?_); intro _ _ _; k_sweep; (try refine ⟨_, _, rfl, ?_⟩)
        refine a_more (h := ?_)
        refine b_name (h := ?_)
        refine s_var (h := ?_); walk_at "p9"
        refine a_more (h := ?_)
        refine b_name (h := ?_)
        refine s_var (h := ?_); walk_at "p9"
        refine a_none (h := ?_)
        refine x_if (h := ?_)
        refine t_cmp (h := ?_)
        refine e_var (h := ?_)
        refine e_cell (h := ?_)
        refine c_in (h := ?_)
        refine truthy_b (h := ?_)
        refine if_t (hc := (by kst_p2)) (h := ?_)
        refine x_cont (h := ?_)
        rename Fr g L _ _ => F6
        rename News g L _ _ => N6
        refine hQT _ _ (turn_cont F6 (N6.perm (news' := (I, oI) :: (kd, oD) :: (Pl, listOf vsP.toArray nP) :: (L + 1, oc) :: news0) (by kd_all)) ?_ ⟨_, _, _, _, _, rfl, rfl, hD1, ?_⟩)
        · intro p hp
          rcases List.mem_cons.mp hp with hp | hp
          · rw [hp]; exact hIK
          · exact hne p (.tail _ hp)
        · rw [take_snoc hxk, ← List.append_assoc]; exact hKv.skip hin
      | false =>
        have fin : ∀ (h6 : Heap) (tk6 : Nat) (o6 : Obj) (v6 : Value) (u3 u4 : Option Value), Fr g L h6 (lkv [Str.ofString "bank", Str.ofString "t", Str.ofString "part", Str.ofString "word", Str.ofString "lot"] [some (.ref a.bk), some (.int n tn), some (.int (x' : Nat) tx), u3, u4]) →
            News g L h6 ((I, oI) :: (kd, o6) :: (Pl, listOf vsP.toArray nP) :: (L + 1, oc) :: news0) → o6.IsDictOf (PySem.intKind PRG w) (stored kvs (x' : Int) v6) → VT ρ b.T x' v6 → Turn g L gs dr os [Str.ofString "bank", Str.ofString "t", Str.ofString "part", Str.ofString "word", Str.ofString "lot"] ((fun k vals' news' => ∃ oD kvs u2 u3 u4, vals' = [some (.ref a.bk), some (.int n tn), u2, u3, u4] ∧ news' = (kd, oD) :: (Pl, listOf vsP.toArray nP) :: (L + 1, oc) :: news0 ∧ oD.IsDictOf (PySem.intKind PRG w) kvs ∧ Kv (VT ρ b.T) kvs ([3, 4, 5] ++ fs.take k) (3 + k)) (k + 1)) I oI (fun _ _ => True) .next ⟨h6, gs, dr, tk6, os⟩ := by
          intro h6 tk6 o6 v6 u3 u4 F6 N6 hD6 hV
          refine turn_next F6 N6 ?_ ⟨_, _, _, _, _, rfl, rfl, hD6, ?_⟩
          · intro p hp
            rcases List.mem_cons.mp hp with hp | hp
            · rw [hp]; exact hIK
            · exact hne p (.tail _ hp)
          · rw [take_snoc hxk, ← List.append_assoc]; exact hKv.add hV
        by_cases h5 : five.any (· == kk.1) = true
        · have t1 : [Str.ofString "true", Str.ofString "false"].any (· == kk.1) = false := five_nin h5 (by decide)
          have t4 : (kk.1 == Str.ofString "ite") = false := five_ne h5 (by decide)
          have t5 : (kk.1 == Str.ofString "=") = false := five_ne h5 (by decide)
          have t6 : (kk.1 == Str.ofString "distinct") = false := five_ne h5 (by decide)
          have hc := conn_node (ρ := ρ) (f := ev ρ b.T) hok
          rw [if_pos h5] at hc
          clear hget hcl
          refine wa_nil (h := ?_)
          refine n_tup (h := ?_); walk_at "p1"
          refine u_tup (h := ?_); intro _ _ _; k_sweep; (try refine ⟨_, _, rfl, ?_⟩)
          refine a_more (h := ?_)
          refine b_name (h := ?_)
          refine s_var (h := ?_); walk_at "p9"
          refine a_more (h := ?_)
          refine b_name (h := ?_)
          refine s_var (h := ?_); walk_at "p9"
          refine a_none (h := ?_)
          refine x_if (h := ?_)
          refine t_cmp (h := ?_)
          refine e_var (h := ?_)
          refine e_cell (h := ?_)
          refine c_in (h := ?_)
          refine truthy_b (h := ?_)
          refine if_f (hc := (by kst_p2)) (h := ?_)
          refine x_ife (h := ?_)
          refine t_cmp (h := ?_)
          refine e_var (h := ?_)
          refine e_tup (h := ?_)
          refine wa_cons (h := ?_)
          refine e_str (h := ?_)
          refine wa_cons (h := ?_)
          refine e_str (h := ?_)
          refine wa_nil (h := ?_)
          refine n_tup (h := ?_); walk_at "p1"
          refine c_instr (hi := by (repeat constructor)) (b := _) (h := ?_)
          refine truthy_b (h := ?_)
          refine if_f (hc := (by kst_p2)) (h := ?_)
          refine x_ifes (h := ?_)
          refine if_f (hc := (by kst_p2)) (h := ?_)
          refine x_ifes (h := ?_)
          refine if_f (hc := (by kst_p2)) (h := ?_)
          refine x_ifes (h := ?_)
          refine if_f (hc := (by kst_p2)) (h := ?_)
          refine x_setsub (h := ?_)
          refine e_gcall (hk := fk_law_worth _) (h := ?_)
          refine wa_v (h := ?_)
          refine wa_v1 (h := ?_)
          refine ⟨In.of (by with_reducible assumption) (by with_reducible assumption), ?_⟩
          rename Fr g L _ _ => F5
          rename News g L _ _ => N5
          refine Does.use' (worth_does w (bs := kk.2.1.map fun x => ev ρ b.T x.toNat) (by omega) (by omega) (by k_mem) hws (by rw [List.length_map]; exact Nat.le_trans hok.len3 (Nat.le_of_ble_eq_true rfl)) (node_enough hok)) rfl B X T F5 N5 rfl (Nat.le_refl _) (Nat.le_refl _) ?_
          rintro v' h' tk' news' F' N' ⟨hW, rfl⟩
          rw [hc] at hW
          obtain ⟨t6', e6⟩ := hW
          clear F5 N5
          refine e_cell (h := ?_)
          refine e_var (h := ?_)
          refine c_dset (hsz := by (first | omega | (simp only [List.length_map]; omega))) (h := ?_); walk_at "p7"
          refine x_nil_thn (h := ?_)
          refine x_nil_thn (h := ?_)
          refine x_nil_thn (h := ?_)
          refine x_nil_thn (h := ?_)
          refine x_nil (h := ?_)
          rename Fr g L _ _ => F6
          rename News g L _ _ => N6
          rename Obj.IsDictOf _ _ (stored _ _ _) => hD6
          exact hQT _ _ (fin _ _ _ _ _ _ F6 (N6.perm (by kd_all)) hD6 ⟨t6', by rw [hev]; exact e6⟩)
        cases hok with
        | app d h1 h2 => exact absurd hin (by rw [hKv.at_ x' (List.mem_append_left _ (by subst h1; simp only [List.mem_cons, List.not_mem_nil, or_false]; omega))]; decide)
        | tru h1 =>
          dsimp only at hcl hget hws hev hiA N4
          clear hget hcl
          refine wa_nil (h := ?_)
          refine n_tup (h := ?_); walk_at "p1"
          refine u_tup (h := ?_); intro _ _ _; k_sweep; (try refine ⟨_, _, rfl, ?_⟩)
          refine a_more (h := ?_)
          refine b_name (h := ?_)
          refine s_var (h := ?_); walk_at "p9"
          refine a_more (h := ?_)
          refine b_name (h := ?_)
          refine s_var (h := ?_); walk_at "p9"
          refine a_none (h := ?_)
          refine x_if (h := ?_)
          refine t_cmp (h := ?_)
          refine e_var (h := ?_)
          refine e_cell (h := ?_)
          refine c_in (h := ?_)
          refine truthy_b (h := ?_)
          refine if_f (hc := (by kst_p2)) (h := ?_)
          refine x_ife (h := ?_)
          refine t_cmp (h := ?_)
          refine e_var (h := ?_)
          refine e_tup (h := ?_)
          refine wa_cons (h := ?_)
          refine e_str (h := ?_)
          refine wa_cons (h := ?_)
          refine e_str (h := ?_)
          refine wa_nil (h := ?_)
          refine n_tup (h := ?_); walk_at "p1"
          refine c_instr (hi := by (repeat constructor)) (b := _) (h := ?_)
          refine truthy_b (h := ?_)
          refine if_t (hc := (by kernel_rfl!)) (h := ?_)
          refine x_setsub (h := ?_)
          refine e_tcall (hk := (bk_int _)) (hb := bb_int) (hne := bn_int) (h := ?_)
          refine wa_cons (h := ?_)
          refine e_cmp (h := ?_)
          refine e_var (h := ?_)
          refine e_str (h := ?_)
          refine eq_str ?_
          refine wa_nil (h := ?_)
          refine c_intb (h := ?_)
          refine e_cell (h := ?_)
          refine e_var (h := ?_)
          refine c_dset (hsz := by (first | omega | (simp only [List.length_map]; omega))) (h := ?_); walk_at "p7"
          refine x_nil_thn (h := ?_)
          refine x_nil (h := ?_)
          rename Fr g L _ _ => F6
          rename News g L _ _ => N6
          rename Obj.IsDictOf _ _ (stored _ _ _) => hD6
          rw [nv_tru] at hev
          exact hQT _ _ (fin _ _ _ _ _ _ F6 (N6.perm (by kd_all)) hD6 ⟨_, by rw [hev]; rfl⟩)
        | fls h1 =>
          dsimp only at hcl hget hws hev hiA N4
          clear hget hcl
          refine wa_nil (h := ?_)
          refine n_tup (h := ?_); walk_at "p1"
          refine u_tup (h := ?_); intro _ _ _; k_sweep; (try refine ⟨_, _, rfl, ?_⟩)
          refine a_more (h := ?_)
          refine b_name (h := ?_)
          refine s_var (h := ?_); walk_at "p9"
          refine a_more (h := ?_)
          refine b_name (h := ?_)
          refine s_var (h := ?_); walk_at "p9"
          refine a_none (h := ?_)
          refine x_if (h := ?_)
          refine t_cmp (h := ?_)
          refine e_var (h := ?_)
          refine e_cell (h := ?_)
          refine c_in (h := ?_)
          refine truthy_b (h := ?_)
          refine if_f (hc := (by kst_p2)) (h := ?_)
          refine x_ife (h := ?_)
          refine t_cmp (h := ?_)
          refine e_var (h := ?_)
          refine e_tup (h := ?_)
          refine wa_cons (h := ?_)
          refine e_str (h := ?_)
          refine wa_cons (h := ?_)
          refine e_str (h := ?_)
          refine wa_nil (h := ?_)
          refine n_tup (h := ?_); walk_at "p1"
          refine c_instr (hi := by (repeat constructor)) (b := _) (h := ?_)
          refine truthy_b (h := ?_)
          refine if_t (hc := (by kernel_rfl!)) (h := ?_)
          refine x_setsub (h := ?_)
          refine e_tcall (hk := (bk_int _)) (hb := bb_int) (hne := bn_int) (h := ?_)
          refine wa_cons (h := ?_)
          refine e_cmp (h := ?_)
          refine e_var (h := ?_)
          refine e_str (h := ?_)
          refine eq_str ?_
          refine wa_nil (h := ?_)
          refine c_intb (h := ?_)
          refine e_cell (h := ?_)
          refine e_var (h := ?_)
          refine c_dset (hsz := by (first | omega | (simp only [List.length_map]; omega))) (h := ?_); walk_at "p7"
          refine x_nil_thn (h := ?_)
          refine x_nil (h := ?_)
          rename Fr g L _ _ => F6
          rename News g L _ _ => N6
          rename Obj.IsDictOf _ _ (stored _ _ _) => hD6
          rw [nv_fls] at hev
          exact hQT _ _ (fin _ _ _ _ _ _ F6 (N6.perm (by kd_all)) hD6 ⟨_, by rw [hev]; rfl⟩)
        | not a0 h1 => exact absurd (by dsimp only; decide) h5
        | xor a0 a1 h1 h2 => exact absurd (by dsimp only; decide) h5
        | imp a0 a1 h1 h2 => exact absurd (by dsimp only; decide) h5
        | eqq a0 a1 h1 h2 =>
          dsimp only at hcl hget hws hev hiA N4
          have hget0 := hget
          clear hget hcl
          obtain ⟨s0, s1, hs⟩ : ∃ s0 s1, (List.map (fun x => (valueAt kvs x).getD Value.none) [a0, a1]) = [Value.int (bz (ev ρ b.T a0.toNat)) s0, Value.int (bz (ev ρ b.T a1.toNat)) s1] := by
            obtain ⟨s0, e0⟩ := hget0 a0 (by simp)
            obtain ⟨s1, e1⟩ := hget0 a1 (by simp)
            exact ⟨s0, s1, by rw [List.map_cons, List.map_cons, List.map_nil, e0, e1]⟩
          rw [hs] at N4 hws
          refine wa_nil (h := ?_)
          refine n_tup (h := ?_); walk_at "p1"
          refine u_tup (h := ?_); intro _ _ _; k_sweep; (try refine ⟨_, _, rfl, ?_⟩)
          refine a_more (h := ?_)
          refine b_name (h := ?_)
          refine s_var (h := ?_); walk_at "p9"
          refine a_more (h := ?_)
          refine b_name (h := ?_)
          refine s_var (h := ?_); walk_at "p9"
          refine a_none (h := ?_)
          refine x_if (h := ?_)
          refine t_cmp (h := ?_)
          refine e_var (h := ?_)
          refine e_cell (h := ?_)
          refine c_in (h := ?_)
          refine truthy_b (h := ?_)
          refine if_f (hc := (by kst_p2)) (h := ?_)
          refine x_ife (h := ?_)
          refine t_cmp (h := ?_)
          refine e_var (h := ?_)
          refine e_tup (h := ?_)
          refine wa_cons (h := ?_)
          refine e_str (h := ?_)
          refine wa_cons (h := ?_)
          refine e_str (h := ?_)
          refine wa_nil (h := ?_)
          refine n_tup (h := ?_); walk_at "p1"
          refine c_instr (hi := by (repeat constructor)) (b := _) (h := ?_)
          refine truthy_b (h := ?_)
          refine if_f (hc := (by kernel_rfl!)) (h := ?_)
          refine x_ifes (h := ?_)
          refine if_t (hc := (by kernel_rfl!)) (h := ?_)
          refine x_setsub (h := ?_)
          refine e_tcall (hk := (bk_int _)) (hb := bb_int) (hne := bn_int) (h := ?_)
          refine wa_cons (h := ?_)
          refine e_cmp (h := ?_)
          refine Subscript_ ?_
          refine e_var (h := ?_)
          refine e_int (h := ?_)
          refine c_itemL (h := ?_)
          refine Subscript_ ?_
          refine e_var (h := ?_)
          refine e_int (h := ?_)
          refine c_itemL (h := ?_)
          refine eq_int ?_
          refine wa_nil (h := ?_)
          refine c_intb (h := ?_)
          refine e_cell (h := ?_)
          refine e_var (h := ?_)
          refine c_dset (hsz := by (first | omega | (simp only [List.length_map]; omega))) (h := ?_); walk_at "p7"
          refine x_nil_thn (h := ?_)
          refine x_nil_thn (h := ?_)
          refine x_nil (h := ?_)
          rename Fr g L _ _ => F6
          rename News g L _ _ => N6
          rename Obj.IsDictOf _ _ (stored _ _ _) => hD6
          rw [nv_eqq, ← bz_eq] at hev
          exact hQT _ _ (fin _ _ _ _ _ _ F6 (N6.perm (by kd_all)) hD6 ⟨_, by rw [hev]⟩)
        | dis2 a0 a1 h1 h2 =>
          dsimp only at hcl hget hws hev hiA N4
          have hget0 := hget
          clear hget hcl
          obtain ⟨s0, s1, hs⟩ : ∃ s0 s1, (List.map (fun x => (valueAt kvs x).getD Value.none) [a0, a1]) = [Value.int (bz (ev ρ b.T a0.toNat)) s0, Value.int (bz (ev ρ b.T a1.toNat)) s1] := by
            obtain ⟨s0, e0⟩ := hget0 a0 (by simp)
            obtain ⟨s1, e1⟩ := hget0 a1 (by simp)
            exact ⟨s0, s1, by rw [List.map_cons, List.map_cons, List.map_nil, e0, e1]⟩
          rw [hs] at N4 hws
          refine wa_nil (h := ?_)
          refine n_tup (h := ?_); walk_at "p1"
          refine u_tup (h := ?_); intro _ _ _; k_sweep; (try refine ⟨_, _, rfl, ?_⟩)
          refine a_more (h := ?_)
          refine b_name (h := ?_)
          refine s_var (h := ?_); walk_at "p9"
          refine a_more (h := ?_)
          refine b_name (h := ?_)
          refine s_var (h := ?_); walk_at "p9"
          refine a_none (h := ?_)
          refine x_if (h := ?_)
          refine t_cmp (h := ?_)
          refine e_var (h := ?_)
          refine e_cell (h := ?_)
          refine c_in (h := ?_)
          refine truthy_b (h := ?_)
          refine if_f (hc := (by kst_p2)) (h := ?_)
          refine x_ife (h := ?_)
          refine t_cmp (h := ?_)
          refine e_var (h := ?_)
          refine e_tup (h := ?_)
          refine wa_cons (h := ?_)
          refine e_str (h := ?_)
          refine wa_cons (h := ?_)
          refine e_str (h := ?_)
          refine wa_nil (h := ?_)
          refine n_tup (h := ?_); walk_at "p1"
          refine c_instr (hi := by (repeat constructor)) (b := _) (h := ?_)
          refine truthy_b (h := ?_)
          refine if_f (hc := (by kernel_rfl!)) (h := ?_)
          refine x_ifes (h := ?_)
          refine if_f (hc := (by kernel_rfl!)) (h := ?_)
          refine x_ifes (h := ?_)
          refine if_t (hc := (by kernel_rfl!)) (h := ?_)
          refine x_setsub (h := ?_)
          refine e_tcall (hk := (bk_int _)) (hb := bb_int) (hne := bn_int) (h := ?_)
          refine wa_cons (h := ?_)
          refine e_cmp (h := ?_)
          refine e_bcall (hk := (bk_len _)) (hb := bb_len) (hne := bn_len) (h := ?_)
          refine wa_cons (h := ?_)
          refine e_tcall (hk := (bk_set _)) (hb := bb_set) (hne := bn_set) (h := ?_)
          refine wa_v1 (h := ?_)
          refine c_set (hz := by (exact Nat.le_of_ble_eq_true rfl)) (h := ?_); intro _ _ _ _ _ _; k_sweep
          refine wa_nil (h := ?_)
          refine c_lenset (hz := by (exact Nat.le_trans (dd_le _) (Nat.le_of_ble_eq_true rfl))) (h := ?_)
          refine e_bcall (hk := (bk_len _)) (hb := bb_len) (hne := bn_len) (h := ?_)
          refine wa_v1 (h := ?_)
          refine c_len (hz := by ((simp only [List.size_toArray, List.length_append, List.length_cons, List.length_nil]); omega)) (h := ?_)
          refine eq_int ?_
          refine wa_nil (h := ?_)
          refine c_intb (h := ?_)
          refine e_cell (h := ?_)
          refine e_var (h := ?_)
          refine c_dset (hsz := by (first | omega | (simp only [List.length_map]; omega))) (h := ?_); walk_at "p7"
          refine x_nil_thn (h := ?_)
          refine x_nil_thn (h := ?_)
          refine x_nil_thn (h := ?_)
          refine x_nil (h := ?_)
          rename Fr g L _ _ => F6
          rename News g L _ _ => N6
          rename Obj.IsDictOf _ _ (stored _ _ _) => hD6
          rw [nv_dis2] at hev
          exact hQT _ _ (fin _ _ _ _ _ _ F6 (N6.perm (by kd_all)) hD6 ⟨_, by rw [hev]; exact congrArg (fun z => Value.int z _) (dd2 _ _)⟩)
        | dis3 a0 a1 a2 h1 h2 h3 =>
          dsimp only at hcl hget hws hev hiA N4
          have hget0 := hget
          clear hget hcl
          obtain ⟨s0, s1, s2, hs⟩ : ∃ s0 s1 s2, (List.map (fun x => (valueAt kvs x).getD Value.none) [a0, a1, a2]) = [Value.int (bz (ev ρ b.T a0.toNat)) s0, Value.int (bz (ev ρ b.T a1.toNat)) s1, Value.int (bz (ev ρ b.T a2.toNat)) s2] := by
            obtain ⟨s0, e0⟩ := hget0 a0 (by simp)
            obtain ⟨s1, e1⟩ := hget0 a1 (by simp)
            obtain ⟨s2, e2⟩ := hget0 a2 (by simp)
            exact ⟨s0, s1, s2, by rw [List.map_cons, List.map_cons, List.map_cons, List.map_nil, e0, e1, e2]⟩
          rw [hs] at N4 hws
          refine wa_nil (h := ?_)
          refine n_tup (h := ?_); walk_at "p1"
          refine u_tup (h := ?_); intro _ _ _; k_sweep; (try refine ⟨_, _, rfl, ?_⟩)
          refine a_more (h := ?_)
          refine b_name (h := ?_)
          refine s_var (h := ?_); walk_at "p9"
          refine a_more (h := ?_)
          refine b_name (h := ?_)
          refine s_var (h := ?_); walk_at "p9"
          refine a_none (h := ?_)
          refine x_if (h := ?_)
          refine t_cmp (h := ?_)
          refine e_var (h := ?_)
          refine e_cell (h := ?_)
          refine c_in (h := ?_)
          refine truthy_b (h := ?_)
          refine if_f (hc := (by kst_p2)) (h := ?_)
          refine x_ife (h := ?_)
          refine t_cmp (h := ?_)
          refine e_var (h := ?_)
          refine e_tup (h := ?_)
          refine wa_cons (h := ?_)
          refine e_str (h := ?_)
          refine wa_cons (h := ?_)
          refine e_str (h := ?_)
          refine wa_nil (h := ?_)
          refine n_tup (h := ?_); walk_at "p1"
          refine c_instr (hi := by (repeat constructor)) (b := _) (h := ?_)
          refine truthy_b (h := ?_)
          refine if_f (hc := (by kernel_rfl!)) (h := ?_)
          refine x_ifes (h := ?_)
          refine if_f (hc := (by kernel_rfl!)) (h := ?_)
          refine x_ifes (h := ?_)
          refine if_t (hc := (by kernel_rfl!)) (h := ?_)
          refine x_setsub (h := ?_)
          refine e_tcall (hk := (bk_int _)) (hb := bb_int) (hne := bn_int) (h := ?_)
          refine wa_cons (h := ?_)
          refine e_cmp (h := ?_)
          refine e_bcall (hk := (bk_len _)) (hb := bb_len) (hne := bn_len) (h := ?_)
          refine wa_cons (h := ?_)
          refine e_tcall (hk := (bk_set _)) (hb := bb_set) (hne := bn_set) (h := ?_)
          refine wa_v1 (h := ?_)
          refine c_set (hz := by (exact Nat.le_of_ble_eq_true rfl)) (h := ?_); intro _ _ _ _ _ _; k_sweep
          refine wa_nil (h := ?_)
          refine c_lenset (hz := by (exact Nat.le_trans (dd_le _) (Nat.le_of_ble_eq_true rfl))) (h := ?_)
          refine e_bcall (hk := (bk_len _)) (hb := bb_len) (hne := bn_len) (h := ?_)
          refine wa_v1 (h := ?_)
          refine c_len (hz := by ((simp only [List.size_toArray, List.length_append, List.length_cons, List.length_nil]); omega)) (h := ?_)
          refine eq_int ?_
          refine wa_nil (h := ?_)
          refine c_intb (h := ?_)
          refine e_cell (h := ?_)
          refine e_var (h := ?_)
          refine c_dset (hsz := by (first | omega | (simp only [List.length_map]; omega))) (h := ?_); walk_at "p7"
          refine x_nil_thn (h := ?_)
          refine x_nil_thn (h := ?_)
          refine x_nil_thn (h := ?_)
          refine x_nil (h := ?_)
          rename Fr g L _ _ => F6
          rename News g L _ _ => N6
          rename Obj.IsDictOf _ _ (stored _ _ _) => hD6
          rw [nv_dis3] at hev
          exact hQT _ _ (fin _ _ _ _ _ _ F6 (N6.perm (by kd_all)) hD6 ⟨_, by rw [hev]; exact congrArg (fun z => Value.int z _) (dd3 _ _ _)⟩)
        | ite a0 a1 a2 h1 h2 h3 =>
          dsimp only at hcl hget hws hev hiA N4
          have hget0 := hget
          clear hget hcl
          obtain ⟨s0, s1, s2, hs⟩ : ∃ s0 s1 s2, (List.map (fun x => (valueAt kvs x).getD Value.none) [a0, a1, a2]) = [Value.int (bz (ev ρ b.T a0.toNat)) s0, Value.int (bz (ev ρ b.T a1.toNat)) s1, Value.int (bz (ev ρ b.T a2.toNat)) s2] := by
            obtain ⟨s0, e0⟩ := hget0 a0 (by simp)
            obtain ⟨s1, e1⟩ := hget0 a1 (by simp)
            obtain ⟨s2, e2⟩ := hget0 a2 (by simp)
            exact ⟨s0, s1, s2, by rw [List.map_cons, List.map_cons, List.map_cons, List.map_nil, e0, e1, e2]⟩
          rw [hs] at N4 hws
          rw [nv_ite] at hev
          generalize hz0 : ev ρ b.T a0.toNat = z0 at *
          cases z0
          focus
            refine wa_nil (h := ?_)
            refine n_tup (h := ?_); walk_at "p1"
            refine u_tup (h := ?_); intro _ _ _; k_sweep; (try refine ⟨_, _, rfl, ?_⟩)
            refine a_more (h := ?_)
            refine b_name (h := ?_)
            refine s_var (h := ?_); walk_at "p9"
            refine a_more (h := ?_)
            refine b_name (h := ?_)
            refine s_var (h := ?_); walk_at "p9"
            refine a_none (h := ?_)
            refine x_if (h := ?_)
            refine t_cmp (h := ?_)
            refine e_var (h := ?_)
            refine e_cell (h := ?_)
            refine c_in (h := ?_)
            refine truthy_b (h := ?_)
            refine if_f (hc := (by kst_p2)) (h := ?_)
            refine x_ife (h := ?_)
            refine t_cmp (h := ?_)
            refine e_var (h := ?_)
            refine e_tup (h := ?_)
            refine wa_cons (h := ?_)
            refine e_str (h := ?_)
            refine wa_cons (h := ?_)
            refine e_str (h := ?_)
            refine wa_nil (h := ?_)
            refine n_tup (h := ?_); walk_at "p1"
            refine c_instr (hi := by (repeat constructor)) (b := _) (h := ?_)
            refine truthy_b (h := ?_)
            refine if_f (hc := (by kernel_rfl!)) (h := ?_)
            refine x_ifes (h := ?_)
            refine if_f (hc := (by kernel_rfl!)) (h := ?_)
            refine x_ifes (h := ?_)
            refine if_f (hc := (by kernel_rfl!)) (h := ?_)
            refine x_ifes (h := ?_)
            refine if_t (hc := (by kernel_rfl!)) (h := ?_)
            refine x_setsub (h := ?_)
            refine Subscript_ ?_
            refine e_var (h := ?_)
            refine wpAny_BinOp ?_
            refine e_int (h := ?_)
            refine Subscript_ ?_
            refine e_var (h := ?_)
            refine e_int (h := ?_)
            refine c_itemL (h := ?_)
            refine o_sub' (h := ?_)
            refine c_itemL (h := ?_)
            refine e_cell (h := ?_)
            refine e_var (h := ?_)
            refine c_dset (hsz := by (first | omega | (simp only [List.length_map]; omega))) (h := ?_); walk_at "p7"
            refine x_nil_thn (h := ?_)
            refine x_nil_thn (h := ?_)
            refine x_nil_thn (h := ?_)
            refine x_nil_thn (h := ?_)
            refine x_nil (h := ?_)
          rotate_left
          focus
            refine wa_nil (h := ?_)
            refine n_tup (h := ?_); walk_at "p1"
            refine u_tup (h := ?_); intro _ _ _; k_sweep; (try refine ⟨_, _, rfl, ?_⟩)
            refine a_more (h := ?_)
            refine b_name (h := ?_)
            refine s_var (h := ?_); walk_at "p9"
            refine a_more (h := ?_)
            refine b_name (h := ?_)
            refine s_var (h := ?_); walk_at "p9"
            refine a_none (h := ?_)
            refine x_if (h := ?_)
            refine t_cmp (h := ?_)
            refine e_var (h := ?_)
            refine e_cell (h := ?_)
            refine c_in (h := ?_)
            refine truthy_b (h := ?_)
            refine if_f (hc := (by kst_p2)) (h := ?_)
            refine x_ife (h := ?_)
            refine t_cmp (h := ?_)
            refine e_var (h := ?_)
            refine e_tup (h := ?_)
            refine wa_cons (h := ?_)
            refine e_str (h := ?_)
            refine wa_cons (h := ?_)
            refine e_str (h := ?_)
            refine wa_nil (h := ?_)
            refine n_tup (h := ?_); walk_at "p1"
            refine c_instr (hi := by (repeat constructor)) (b := _) (h := ?_)
            refine truthy_b (h := ?_)
            refine if_f (hc := (by kernel_rfl!)) (h := ?_)
            refine x_ifes (h := ?_)
            refine if_f (hc := (by kernel_rfl!)) (h := ?_)
            refine x_ifes (h := ?_)
            refine if_f (hc := (by kernel_rfl!)) (h := ?_)
            refine x_ifes (h := ?_)
            refine if_t (hc := (by kernel_rfl!)) (h := ?_)
            refine x_setsub (h := ?_)
            refine Subscript_ ?_
            refine e_var (h := ?_)
            refine wpAny_BinOp ?_
            refine e_int (h := ?_)
            refine Subscript_ ?_
            refine e_var (h := ?_)
            refine e_int (h := ?_)
            refine c_itemL (h := ?_)
            refine o_sub' (h := ?_)
            refine c_itemL (h := ?_)
            refine e_cell (h := ?_)
            refine e_var (h := ?_)
            refine c_dset (hsz := by (first | omega | (simp only [List.length_map]; omega))) (h := ?_); walk_at "p7"
            refine x_nil_thn (h := ?_)
            refine x_nil_thn (h := ?_)
            refine x_nil_thn (h := ?_)
            refine x_nil_thn (h := ?_)
            refine x_nil (h := ?_)
          rotate_left
          all_goals (rename Fr g L _ _ => F6; rename News g L _ _ => N6; rename Obj.IsDictOf _ _ (stored _ _ _) => hD6; exact hQT _ _ (fin _ _ _ _ _ _ F6 (N6.perm (by kd_all)) hD6 ⟨_, by rw [hev]; rfl⟩))
        | and a0 a1 a2 h1 h2 h3 => exact absurd (by dsimp only; decide) h5
        | or a0 a1 a2 h1 h2 h3 => exact absurd (by dsimp only; decide) h5
  case done =>
    clear N2 F2 N3
    (try clear N1)
    (try clear F)
    rintro vals' news' h' tk' ⟨oD, kvs, u2, u3, u4, rfl, rfl, hD1, hKv⟩ F' N'
    have hlk : vsP.length = fs.length := by rw [hP.length]; unfold ni; rw [List.length_map]
    rw [hlk, List.take_length] at hKv
    have hK16 : Kv (VT ρ b.T) kvs ([3, 4, 5] ++ fs) 16 := ⟨hKv.at_, hKv.val, Nat.le_trans hKv.len (by omega)⟩
    show wpAny _ _ (execs _ _) _ _ _
    refine x_ret (h := ?_)
    refine e_cell (h := ?_)
    show Q (Flow.ret _) _
    exact hq _ _ (back F' (N'.perm (by kd_all)) rfl ⟨rfl, oD, kvs, fs, rfl, hD1, hK16, hT⟩)
/- Sd -/
set_option maxHeartbeats 16000000 in
theorem seg_end (w : World) : LawGo w 6 (P6 w) := by
  refine' law_intro ?ho ?H
  case ho => k_is
  intro gd f ccd A0 base mean mg mb un g L h gs dr os tk0 Q vals news lv0 hun B X T F N hP hq
  have v0 := lv0 0 (Str.ofString "script") rfl
  have v1 := lv0 1 (Str.ofString "feed") rfl
  have v2 := lv0 2 (Str.ofString "leaves") rfl
  have v3 := lv0 3 (Str.ofString "t") rfl
  have v4 := lv0 4 (Str.ofString "model") rfl
  have v5 := lv0 5 (Str.ofString "leaf") rfl
  have v6 := lv0 6 (Str.ofString "parts") rfl
  have v7 := lv0 7 (Str.ofString "part") rfl
  have v8 := lv0 8 (Str.ofString "told") rfl
  clear lv0
  obtain ⟨a, b, rest, R, sl, fd, lv, md, kd, ob, okk, o, x, n, tn, ρ, u5, u6, u7, u8, kvs, rfl, rfl, hob, hok, hA, hB, wf, hlen, hsub, hM, hsw, hfr, hn, hd0, hlo, hK0, off, hk1, hk2⟩ := hP
  show wpAny _ _ (execs (_ :: _) _) _ _ _
  have q_op : getL (Str.ofString "op") a.es = some none := hA.no "op" (by decide)
  have q_args : getL (Str.ofString "args") a.es = some none := hA.no "args" (by decide)
  have q_parts : getL (Str.ofString "parts") a.es = some none := hA.no "parts" (by decide)
  have hbk := hsub _ (.head _)
  have hbd := hsub _ (.tail _ (.head _))
  have hi1 := hM.i
  have hd1 := hM.d
  have hn3 := hM.n3
  have offK : OwnOff ((L + 1, ob) :: (L + 2, okk) :: R) [kd] := offs (offs (fun p hp b hb => off p hp b (by rw [List.mem_singleton.mp hb]; exact .head _)) (by intro b hb; rw [List.mem_singleton.mp hb]; exact Ne.symm hk2)) (by intro b hb; rw [List.mem_singleton.mp hb]; exact Ne.symm hk1)
  refine x_asg (h := ?_)
  refine e_gcall (hk := fk_law_values _) (h := ?_)
  refine wa_cons (h := ?_)
  refine e_cell (h := ?_)
  refine wa_cons (h := ?_)
  refine e_cell (h := ?_)
  refine wa_v1 (h := ?_)
  refine ⟨In.of (by with_reducible assumption) (by with_reducible assumption), ?_⟩
  refine Does.use' (values_does w (rest := rest) (news0 := (L + 1, ob) :: (L + 2, okk) :: R) (by omega) (by omega) hA hB wf hlen (fun p hp => .tail _ (.tail _ (hsub p hp))) hn hd0 hlo hK0 offK) rfl B X T (by assumption) (by assumption) rfl (Nat.le_refl _) (Nat.le_refl _) ?_
  rintro v' h' tk' news' F' N' ⟨rfl, o2, kvs2, fs, rfl, hd2, hK2, hT⟩
  clear hd0 hK0
  k_sweep
  refine s_cell (h := ?_); walk_at "p4"
  refine x_asg (h := ?_)
  refine e_cmcall (hk := mk_parts _) (h := ?_)
  refine wa_v1 (h := ?_)
  refine ⟨In.of (by with_reducible assumption) (by with_reducible assumption), ?_⟩
  (refine' Does.use' (parts1_does _ ?hDz77 ?hUz77 ?hAz77 ?hBz77 ?wfz77 ?hlenz77 ?hsubz77 ?hrz77) ?haz77 ?Bz77 ?Xz77 ?Tz77 ?Fz77 ?Nz77 ?hkz77 (Nat.le_refl _) (Nat.le_refl _) ?_; (case Nz77 => assumption); (case hAz77 => assumption); (case hBz77 => assumption); (case wfz77 => assumption); (case haz77 => exact rfl); (case hDz77 => omega); (case hUz77 => omega); (case hlenz77 => omega); (case hsubz77 => kst_all); (case hrz77 => assumption); (case Bz77 => assumption); (case Xz77 => assumption); (case Tz77 => assumption); (case Fz77 => assumption); (case hkz77 => exact rfl)); walk_at "p5"
  refine s_var (h := ?_); walk_at "p9"
  refine x_if (h := ?_)
  refine t_cmp (h := ?_)
  refine e_gcall (hk := fk_evaluate_all _) (h := ?_)
  refine wa_cons (h := ?_)
  refine e_cell (h := ?_)
  refine wa_v (h := ?_)
  refine wa_v1 (h := ?_)
  refine ⟨In.of (by with_reducible assumption) (by with_reducible assumption), ?_⟩
  rename Topo b.T [n] _ => hT2
  rename IntsAre _ (ni _) => hP
  rename Fr g L _ _ => F2
  rename News g L _ _ => N2
  rename _ ∧ _ => lP
  rename_i oK hoK hx1 tkx Dp fs2 vsP nP hx2
  have hfl : fs2.length ≤ 13 := Nat.le_trans (nodup_len hT2.nd fun x hx => (hT2.tn x hx).2) hlen
  have hvl : vsP.length = fs2.length := by rw [hP.length]; unfold ni; rw [List.length_map]
  have hval : ∀ c ∈ fs2, ∃ t, valueAt kvs2 (c : Int) = some (.int (bz (ev ρ b.T c)) t) := by
    intro c hc
    obtain ⟨u, hu, t, rfl⟩ := hK2.get (List.mem_append_right _ (hT.sub hT2 c hc))
    exact ⟨t, hu⟩
  refine Does.use' (evalall_does w (roots := fs2) (by omega) (by omega) hA hB wf hlen (by kst_all) (hM.mono (by kst_all)) hsw hfr (.head _) (.inl rfl) hP (by omega) hT2.tn) rfl B X T F2 N2 rfl (Nat.le_refl _) (Nat.le_refl _) ?_
  rintro v' h' tk' news' F' N' ⟨De, nE, rfl, rfl, hDe⟩
  rw [show fs2.map (fun r => Value.bool (ev ρ b.T r)) = (fs2.map (ev ρ b.T)).map Value.bool from (List.map_map ..).symm] at N'
  k_sweep
  refine e_lc F' (by with_unfolding_all rfl) (by decide) rfl (by decide) rfl (fun _ => by with_unfolding_all rfl) ?_
  refine e_var (h := ?_)
  refine lc_pure (vs := vsP) (ws := (fs2.map (ev ρ b.T)).map Value.bool) rfl F' N' (.tail _ (.head _)) (Or.inl rfl) (by omega) (by rw [List.length_map, List.length_map, hvl]) ?he ?hK
  case he =>
    clear hq
    intro j v y I2 oI2 C oC D2 m2 h2 tk2 E' hv2 hy hns hm2 F4 N4
    obtain ⟨c, tc, hc, rfl⟩ := ints_get hP hv2
    rw [List.getElem?_map, List.getElem?_map, hc] at hy
    obtain rfl := Option.some.inj hy
    obtain ⟨tv, hu⟩ := hval c (List.mem_of_getElem? hc)
    refine e_cmp (h := ?_)
    refine Subscript_ ?_
    refine cv_cell (h := ?_)
    refine cv_local (hC := by (exact List.Mem.tail _ (List.Mem.head _))) (h := ?_)
    refine c_ditem (h := ?_) (hg := by (intro _; with_unfolding_all rfl))
    refine e_int (h := ?_)
    refine eq_int ?_
    rename Fr g L _ _ => F4
    rename News g L _ _ => N4
    rw [bz_is1]
    exact reads1 F4 N4
  case hK =>
    intro D3 h3 tk3 F3 N3 o3
    refine c_nebools N3 (.tail _ (.head _)) (.head _) (by show un + 64 < cLine; unfold cLine; omega) ?_
    have N4 : News g L h3 ((Dp, listOf vsP.toArray nP) :: (kd, o2) :: (L + 1, ob) :: (L + 2, oK) :: R) := N3.perm (fun p hp => .tail _ (.tail _ hp))
    clear N3
    (try clear N')
    (try clear F')
    (try clear F2)
    (try clear N2)
    refine truthy_b (h := ?_)
    refine if_f (hc := (by kernel_rfl!)) (h := ?_)
    refine x_for (hs := by (intro v; with_unfolding_all rfl)) (h := ?_)
    refine e_var (h := ?_)
    refine p_list rfl (by assumption) (by assumption) (.head _) v7 (fun _ vals' news' => ∃ u7 u8, vals' = [some (.ref sl), some (.ref fd), some (.ref lv), some (.int n tn), some (.ref md), u5, some (.ref Dp), u7, u8] ∧ news' = (Dp, listOf vsP.toArray nP) :: (kd, o2) :: (L + 1, ob) :: (L + 2, oK) :: R) ⟨_, _, rfl, rfl⟩ ?hJl ?hJn ?turn ?done
    case hJl => rintro kk vals' news' ⟨u7, u8, rfl, rfl⟩; exact .head _
    case hJn => rintro kk vals' news' ⟨u7, u8, rfl, rfl⟩; rfl
    case turn =>
      clear hq
      (try clear F3)
      (try clear N4)
      rintro k v vals1 news1 h1 tk1 I oI hv ⟨u7, u8, rfl, rfl⟩ hne F1 N1 QT hQT
      dsimp only [List.set_cons_succ, List.set_cons_zero] at F1
      obtain ⟨x', tx, hxk, rfl⟩ := ints_get hP hv
      have hxm := List.mem_of_getElem? hxk
      have hxT := hT2.tn x' hxm
      obtain ⟨kk, hkk⟩ := hxT.key
      have hcl := hT2.cl k x' kk hxk hkk
      have hok2 := wf.ok x' kk hkk hxT.1
      obtain ⟨tv, hu⟩ := hval x' hxm
      have hev := ev_eq (ρ := ρ) wf hkk hxT.1
      refine x_if (h := ?_)
      refine t_cmp (h := ?_)
      refine e_mcall1 (hk := mm_value _) (h := ?_)
      (refine' Does.use' (value_does _ ?hDz78 ?hUz78 ?hAz78 ?hBz78 ?wfz78 ?hlenz78 ?hsubz78 (MOk.mono ?hMz78 ?hMsz78) ?hswz78 ?hfrz78 ?hrz78) ?haz78 ?Bz78 ?Xz78 ?Tz78 ?Fz78 ?Nz78 ?hkz78 (Nat.le_refl _) (Nat.le_refl _) ?_; (case Nz78 => assumption); (case hAz78 => assumption); (case hBz78 => assumption); (case wfz78 => assumption); (case hMz78 => assumption); (case hMsz78 => kst_all); (case haz78 => exact rfl); (case hDz78 => omega); (case hUz78 => omega); (case hlenz78 => omega); (case hsubz78 => kst_all); (case hswz78 => assumption); (case hfrz78 => assumption); (case hrz78 => assumption); (case Bz78 => assumption); (case Xz78 => assumption); (case Tz78 => assumption); (case Fz78 => assumption); (case hkz78 => exact rfl)); rintro _ _ _ _ _ _ ⟨rfl, rfl⟩; k_sweep
      refine e_cmp (h := ?_)
      refine Subscript_ ?_
      refine e_cell (h := ?_)
      refine e_var (h := ?_)
      refine c_ditem (h := ?_) (hg := by (intro _; with_unfolding_all rfl))
      refine e_int (h := ?_)
      refine eq_int ?_
      refine isnot_bz (h := ?_)
      refine truthy_b (h := ?_)
      refine if_f (hc := (by kernel_rfl!)) (h := ?_)
      refine x_asg (h := ?_)
      refine e_gcall (hk := fk_connected _) (h := ?_)
      refine wa_cons (h := ?_)
      refine e_cmcall (hk := mk_op _) (h := ?_)
      refine wa_v1 (h := ?_)
      refine ⟨In.of (by with_reducible assumption) (by with_reducible assumption), ?_⟩
      (refine' Does.use' (op_does _ ?hDz79 ?hUz79 ?hAz79 ?hBz79 ?hlenz79 ?hsubz79 ?htz79) ?haz79 ?Bz79 ?Xz79 ?Tz79 ?Fz79 ?Nz79 ?hkz79 (Nat.le_refl _) (Nat.le_refl _) ?_; (case Nz79 => assumption); (case hAz79 => assumption); (case hBz79 => assumption); (case haz79 => exact rfl); (case hDz79 => omega); (case hUz79 => omega); (case hlenz79 => omega); (case htz79 => assumption); (case hsubz79 => kst_all); (case Bz79 => assumption); (case Xz79 => assumption); (case Tz79 => assumption); (case Fz79 => assumption); (case hkz79 => exact rfl)); rintro _ _ _ _ _ _ ⟨⟨_, rfl⟩, rfl⟩; k_sweep; (try dsimp only)
      refine wa_cons (h := ?_)
      refine e_lc (by assumption) (by with_unfolding_all rfl) (by decide) rfl (by decide) rfl (fun _ => by with_unfolding_all rfl) ?_
      refine e_cmcall (hk := mk_args _) (h := ?_)
      refine wa_v1 (h := ?_)
      refine ⟨In.of (by with_reducible assumption) (by with_reducible assumption), ?_⟩
      (refine' Does.use' (args_does _ ?hDz80 ?hUz80 ?hAz80 ?hBz80 ?hlenz80 ?hsubz80 ?htz80) ?haz80 ?Bz80 ?Xz80 ?Tz80 ?Fz80 ?Nz80 ?hkz80 (Nat.le_refl _) (Nat.le_refl _) ?_; (case Nz80 => assumption); (case hAz80 => assumption); (case hBz80 => assumption); (case haz80 => exact rfl); (case hDz80 => omega); (case hUz80 => omega); (case hlenz80 => omega); (case htz80 => assumption); (case hsubz80 => kst_all); (case Bz80 => assumption); (case Xz80 => assumption); (case Tz80 => assumption); (case Fz80 => assumption); (case hkz80 => exact rfl)); rintro _ _ _ _ _ _ ⟨⟨_, rfl, _⟩, rfl⟩; k_sweep
      rename IntTup rest _ _ => hcA
      obtain ⟨vsA, nA, hmA, hiA⟩ := hcA
      have hmN := hsub _ (List.mem_append_right _ hmA)
      have hlA : vsA.length ≤ 3 := by rw [hiA.length]; exact hok2.len3
      refine lc_pure (vs := vsA) (ws := (kk.2.1.map fun x => ev ρ b.T x.toNat).map Value.bool) rfl (by assumption) (by assumption) (by k_mem) (Or.inr rfl) (by omega) (by rw [List.length_map, List.length_map, hiA.length]) ?he ?hK
      case he =>
        intro j v y I2 oI2 C oC D m2 h2 tk2 E' hv2 hy hns hm2 F3 N3
        obtain ⟨c, tc, hc, rfl⟩ := ints_at2 hiA hv2
        rw [List.getElem?_map, List.getElem?_map, hc] at hy
        obtain rfl := Option.some.inj hy
        have hca := hok2.args c (List.mem_of_getElem? hc)
        obtain ⟨cn, rfl⟩ := Int.eq_ofNat_of_zero_le (show 0 ≤ c by have := hca.1; omega)
        obtain ⟨tw, hw⟩ := hval cn (List.mem_of_mem_take (hcl cn (List.mem_of_getElem? hc)))
        refine e_cmp (h := ?_)
        refine Subscript_ ?_
        refine cv_cell (h := ?_)
        refine cv_local (hC := by (exact List.Mem.tail _ (List.Mem.head _))) (h := ?_)
        refine c_ditem (h := ?_) (hg := by (intro _; with_unfolding_all rfl))
        refine e_int (h := ?_)
        refine eq_int ?_
        rename Fr g L _ _ => F4
        rename News g L _ _ => N4
        rw [bz_is1]
        exact reads1 F4 N4
      case hK =>
        intro D h2 tk2 F4 N4 o1
        have hcn := conn_node (ρ := ρ) (f := ev ρ b.T) hok2
        refine wa_nil (h := ?_)
        refine ⟨In.of (by with_reducible assumption) (by with_reducible assumption), ?_⟩
        refine Does.use' (connected_does w (bs := kk.2.1.map fun x => ev ρ b.T x.toNat) (by omega) (by omega) (.head _) (.inl rfl) (node_enough hok2)) rfl B X T F4 N4 rfl (Nat.le_refl _) (Nat.le_refl _) ?_
        rintro v' h' tk' news' F' N' ⟨e1, rfl⟩
        clear F4 N4
        rw [hcn] at e1
        clear hcn hcl
        cases h5 : [Str.ofString "not", Str.ofString "and", Str.ofString "or", Str.ofString "xor", Str.ofString "=>"].any (· == kk.1) with
        | true =>
          rw [if_pos (show five.any (· == kk.1) = true from h5), ← hev] at e1
          dsimp only [ov] at e1
          subst e1
          refine s_var (h := ?_); walk_at "p9"
          refine x_if (h := ?_)
          refine t_cmp (h := ?_)
          refine e_var (h := ?_)
          refine IfExp_ ?_
          refine t_cmp (h := ?_)
          refine e_cmcall (hk := mk_op _) (h := ?_)
          refine wa_v1 (h := ?_)
          refine ⟨In.of (by with_reducible assumption) (by with_reducible assumption), ?_⟩
          (refine' Does.use' (op_does _ ?hDz81 ?hUz81 ?hAz81 ?hBz81 ?hlenz81 ?hsubz81 ?htz81) ?haz81 ?Bz81 ?Xz81 ?Tz81 ?Fz81 ?Nz81 ?hkz81 (Nat.le_refl _) (Nat.le_refl _) ?_; (case Nz81 => assumption); (case hAz81 => assumption); (case hBz81 => assumption); (case haz81 => exact rfl); (case hDz81 => omega); (case hUz81 => omega); (case hlenz81 => omega); (case htz81 => assumption); (case hsubz81 => kst_all); (case Bz81 => assumption); (case Xz81 => assumption); (case Tz81 => assumption); (case Fz81 => assumption); (case hkz81 => exact rfl)); rintro _ _ _ _ _ _ ⟨⟨_, rfl⟩, rfl⟩; k_sweep; (try dsimp only)
          refine e_tup (h := ?_)
          refine wa_cons (h := ?_)
          refine e_str (h := ?_)
          refine wa_cons (h := ?_)
          refine e_str (h := ?_)
          refine wa_cons (h := ?_)
          refine e_str (h := ?_)
          refine wa_cons (h := ?_)
          refine e_str (h := ?_)
          refine wa_cons (h := ?_)
          refine e_str (h := ?_)
          refine wa_nil (h := ?_)
          refine n_tup (h := ?_); walk_at "p1"
          refine c_instr (hi := by (repeat constructor)) (b := _) (h := ?_)
          refine truthy_b (h := ?_)
          refine if_t (hc := (by kst_p2)) (h := ?_)
          refine e_cmp (h := ?_)
          refine Subscript_ ?_
          refine e_cell (h := ?_)
          refine e_var (h := ?_)
          refine c_ditem (h := ?_) (hg := by (intro _; with_unfolding_all rfl))
          refine e_int (h := ?_)
          refine eq_int ?_
          refine isnot_bz (h := ?_)
          refine truthy_b (h := ?_)
          refine if_f (hc := (by kernel_rfl!)) (h := ?_)
          refine x_nil (h := ?_)
          rename Fr g L _ _ => F9
          rename News g L _ _ => N9
          exact hQT _ _ (turn_next F9 (N9.perm (by kd_all)) hne ⟨_, _, rfl, rfl⟩)
        | false =>
          rw [if_neg (by rw [show five.any (· == kk.1) = false from h5]; decide)] at e1
          dsimp only [ov] at e1
          subst e1
          refine s_var (h := ?_); walk_at "p9"
          refine x_if (h := ?_)
          refine t_cmp (h := ?_)
          refine e_var (h := ?_)
          refine IfExp_ ?_
          refine t_cmp (h := ?_)
          refine e_cmcall (hk := mk_op _) (h := ?_)
          refine wa_v1 (h := ?_)
          refine ⟨In.of (by with_reducible assumption) (by with_reducible assumption), ?_⟩
          (refine' Does.use' (op_does _ ?hDz82 ?hUz82 ?hAz82 ?hBz82 ?hlenz82 ?hsubz82 ?htz82) ?haz82 ?Bz82 ?Xz82 ?Tz82 ?Fz82 ?Nz82 ?hkz82 (Nat.le_refl _) (Nat.le_refl _) ?_; (case Nz82 => assumption); (case hAz82 => assumption); (case hBz82 => assumption); (case haz82 => exact rfl); (case hDz82 => omega); (case hUz82 => omega); (case hlenz82 => omega); (case htz82 => assumption); (case hsubz82 => kst_all); (case Bz82 => assumption); (case Xz82 => assumption); (case Tz82 => assumption); (case Fz82 => assumption); (case hkz82 => exact rfl)); rintro _ _ _ _ _ _ ⟨⟨_, rfl⟩, rfl⟩; k_sweep; (try dsimp only)
          refine e_tup (h := ?_)
          refine wa_cons (h := ?_)
          refine e_str (h := ?_)
          refine wa_cons (h := ?_)
          refine e_str (h := ?_)
          refine wa_cons (h := ?_)
          refine e_str (h := ?_)
          refine wa_cons (h := ?_)
          refine e_str (h := ?_)
          refine wa_cons (h := ?_)
          refine e_str (h := ?_)
          refine wa_nil (h := ?_)
          refine n_tup (h := ?_); walk_at "p1"
          refine c_instr (hi := by (repeat constructor)) (b := _) (h := ?_)
          refine truthy_b (h := ?_)
          refine if_f (hc := (by kst_p2)) (h := ?_)
          refine PyProof.Rows.Constant_none ?_
          refine PyProof.Rows.isnot_none_none ?_
          refine truthy_b (h := ?_)
          refine if_f (hc := (by kernel_rfl!)) (h := ?_)
          refine x_nil (h := ?_)
          rename Fr g L _ _ => F9
          rename News g L _ _ => N9
          exact hQT _ _ (turn_next F9 (N9.perm (by kd_all)) hne ⟨_, _, rfl, rfl⟩)
    case done =>
      (try clear F3)
      (try clear N4)
      rintro vals' news' h' tk' ⟨u7, u8, rfl, rfl⟩ F' N'
      show wpAny _ _ (execs _ _) _ _ _
      refine x_ret (h := ?_)
      refine e_bool (h := ?_)
      exact hq _ _ _ F'
/- KF3 -/
theorem sc_782 (P : Params) : findIn (heapK P) (.ref 782) "__setattr__" = some (some (.builtin "object.__setattr__")) ∧ plainOver (heapK P) 782 = true ∧ hasDictIn (heapK P) 782 = true := ⟨by k_is, by k_is, by k_is⟩
theorem sc_865 (P : Params) : findIn (heapK P) (.ref 865) "__setattr__" = some (some (.builtin "object.__setattr__")) ∧ plainOver (heapK P) 865 = true ∧ hasDictIn (heapK P) 865 = true := ⟨by k_is, by k_is, by k_is⟩
theorem st_sort_names (P : Params) : SetOk (heapK P) 782 (Str.ofString "sort_names") := ⟨(sc_782 P).1, (sc_782 P).2.1, by k_is, (sc_782 P).2.2⟩
theorem st_sort_widths (P : Params) : SetOk (heapK P) 782 (Str.ofString "sort_widths") := ⟨(sc_782 P).1, (sc_782 P).2.1, by k_is, (sc_782 P).2.2⟩
theorem st_fun_names (P : Params) : SetOk (heapK P) 782 (Str.ofString "fun_names") := ⟨(sc_782 P).1, (sc_782 P).2.1, by k_is, (sc_782 P).2.2⟩
theorem st_fun_args (P : Params) : SetOk (heapK P) 782 (Str.ofString "fun_args") := ⟨(sc_782 P).1, (sc_782 P).2.1, by k_is, (sc_782 P).2.2⟩
theorem st_fun_results (P : Params) : SetOk (heapK P) 782 (Str.ofString "fun_results") := ⟨(sc_782 P).1, (sc_782 P).2.1, by k_is, (sc_782 P).2.2⟩
theorem st_fresh_count (P : Params) : SetOk (heapK P) 782 (Str.ofString "fresh_count") := ⟨(sc_782 P).1, (sc_782 P).2.1, by k_is, (sc_782 P).2.2⟩
theorem st_term_ops (P : Params) : SetOk (heapK P) 782 (Str.ofString "term_ops") := ⟨(sc_782 P).1, (sc_782 P).2.1, by k_is, (sc_782 P).2.2⟩
theorem st_term_args (P : Params) : SetOk (heapK P) 782 (Str.ofString "term_args") := ⟨(sc_782 P).1, (sc_782 P).2.1, by k_is, (sc_782 P).2.2⟩
theorem st_term_sorts (P : Params) : SetOk (heapK P) 782 (Str.ofString "term_sorts") := ⟨(sc_782 P).1, (sc_782 P).2.1, by k_is, (sc_782 P).2.2⟩
theorem st_term_datas (P : Params) : SetOk (heapK P) 782 (Str.ofString "term_datas") := ⟨(sc_782 P).1, (sc_782 P).2.1, by k_is, (sc_782 P).2.2⟩
theorem st_numbers (P : Params) : SetOk (heapK P) 782 (Str.ofString "numbers") := ⟨(sc_782 P).1, (sc_782 P).2.1, by k_is, (sc_782 P).2.2⟩
theorem st_true_number (P : Params) : SetOk (heapK P) 782 (Str.ofString "true_number") := ⟨(sc_782 P).1, (sc_782 P).2.1, by k_is, (sc_782 P).2.2⟩
theorem st_false_number (P : Params) : SetOk (heapK P) 782 (Str.ofString "false_number") := ⟨(sc_782 P).1, (sc_782 P).2.1, by k_is, (sc_782 P).2.2⟩
theorem st_bv_numbers (P : Params) : SetOk (heapK P) 782 (Str.ofString "bv_numbers") := ⟨(sc_782 P).1, (sc_782 P).2.1, by k_is, (sc_782 P).2.2⟩
theorem sm_bank (P : Params) : SetOk (heapK P) 865 (Str.ofString "bank") := ⟨(sc_865 P).1, (sc_865 P).2.1, by k_is, (sc_865 P).2.2⟩
theorem sm_tables (P : Params) : SetOk (heapK P) 865 (Str.ofString "tables") := ⟨(sc_865 P).1, (sc_865 P).2.1, by k_is, (sc_865 P).2.2⟩
theorem sm_others (P : Params) : SetOk (heapK P) 865 (Str.ofString "others") := ⟨(sc_865 P).1, (sc_865 P).2.1, by k_is, (sc_865 P).2.2⟩
theorem ak_fun_names (P : Params) : AttrOk (heapK P) 782 (Str.ofString "fun_names") := ⟨by k_is, by k_is, _, by k_is, by k_is⟩
theorem ak_fun_args (P : Params) : AttrOk (heapK P) 782 (Str.ofString "fun_args") := ⟨by k_is, by k_is, _, by k_is, by k_is⟩
theorem mk_fresh_const (P : Params) : MethOk (heapK P) 782 (Str.ofString "fresh_const") 319 := ⟨by k_is, by k_is, by k_is, by k_is⟩
theorem mk_declare_fun (P : Params) : MethOk (heapK P) 782 (Str.ofString "declare_fun") 305 := ⟨by k_is, by k_is, by k_is, by k_is⟩
theorem gc_TermBank (P : Params) : FunOk (heapK P) (Str.ofString "TermBank") 782 := ⟨by k_is, by k_is⟩
theorem gc_Model (P : Params) : FunOk (heapK P) (Str.ofString "Model") 865 := ⟨by k_is, by k_is⟩
theorem mi_TermBank (P : Params) : makesIn (heapK P) 782 = true := by k_is
theorem mi_Model (P : Params) : makesIn (heapK P) 865 = true := by k_is
theorem in_Model (P : Params) : findIn (heapK P) (.ref 865) "__init__" = some (some (.ref 806)) ∧ isFn (heapK P) (.ref 806) = true := ⟨by k_is, by k_is⟩
theorem in_TermBank (P : Params) : findIn (heapK P) (.ref 782) "__init__" = some (some (.ref 681)) ∧ isFn (heapK P) (.ref 681) = true := ⟨by k_is, by k_is⟩
/- In -/
noncomputable def bankAts (a : BA) (fn fa sn : Addr) (t1 t2 tc : Tok) : List (Str × Value) :=
  [(Str.ofString "false_number", .int 2 t2), (Str.ofString "true_number", .int 1 t1), (Str.ofString "numbers", .ref a.nm), (Str.ofString "term_datas", .ref a.td), (Str.ofString "term_sorts", .ref a.ts), (Str.ofString "term_args", .ref a.ta), (Str.ofString "term_ops", .ref a.to),
   (Str.ofString "fresh_count", .int 0 tc), (Str.ofString "fun_results", .ref a.fr), (Str.ofString "fun_args", .ref fa), (Str.ofString "fun_names", .ref fn), (Str.ofString "sort_widths", .ref a.sw), (Str.ofString "sort_names", .ref sn)]
noncomputable def T3 : List Key := [(Str.ofString "", [], 0), (Str.ofString "true", [], 0), (Str.ofString "false", [], 0)]
set_option maxHeartbeats 16000000 in
theorem init_does (w : World) {D U : Nat} (hD : D < 480) (hU : U < 900) {x dx : Addr} {rest0 : Led} (hx : @LT.lt Nat _ dx x) (hl0 : AllLt dx rest0) :
  DoesC w 263 [.ref x] D U ((x, instObj 782 dx) :: (dx, dictOf [] 0) :: rest0) (fun v news' => v = .none ∧ ∃ (a : BA) (b : BS) (sn fn fa : Addr) (tl : Led) (t1 t2 tc : Tok), a.bk = x ∧ a.bd = dx ∧ news' = (fn, listOf ([] : List Value).toArray 0) :: (fa, listOf ([] : List Value).toArray 0) :: (BL a b ++ (tl ++ rest0)) ∧
    (∃ u0 u1 u2 nz, a.swO = listOf [Value.int 0 u0, .int 0 u1, .int 0 u2].toArray nz) ∧ a.frO = listOf ([] : List Value).toArray 0 ∧ Ats a.es (bankAts a fn fa sn t1 t2 tc) ∧ a.es.length ≤ 20 ∧ a.Ok0 ∧ @LT.lt Nat _ a.sw fn ∧ @LT.lt Nat _ fn fa ∧ @LT.lt Nat _ fa a.fr ∧
    Bank w (tl ++ rest0) b ∧ b.T = T3 ∧ OwnOff tl (fn :: fa :: a.adr) ∧ Fresh tl rest0) := by
  refine' doesC_intro (names := [Str.ofString "self"]) (k := 0) (vals := [some (.ref x)]) ?hvals ?ho ?hcd ?hD ?hbind ?hall ?hnd ?hco ?hgen ?hk ?hcell ?body
  tb_start
  intro K A0 base mean mg mb g L h gs dr os tk0 Q lv B X T F N lt hdp hun hq
  have hd1 := Nat.lt_of_le_of_lt hdp (Nat.add_lt_add_right hD 1)
  have hu1 := Nat.lt_of_le_of_lt hun (Nat.add_lt_add_right hU 3)
  show wpAny _ _ (execs (_ :: _) _) _ _ _
  have v0 := lv 0 (Str.ofString "self") rfl
  clear lv
  have off0 : OwnOff rest0 [dx] := fun p hp b hb => by rw [List.mem_singleton.mp hb]; exact Nat.ne_of_lt (AllLt.mem hl0 p hp)
  have hA0 : Ats ([] : List DictEntry) [] := Ats.nil
  have hz0 : ([] : List DictEntry).length ≤ 0 := Nat.le_refl _
  refine x_asga (h := ?_)
  refine e_list (h := ?_)
  refine wa_cons (h := ?_)
  refine e_str (h := ?_)
  refine wa_cons (h := ?_)
  refine e_str (h := ?_)
  refine wa_cons (h := ?_)
  refine e_str (h := ?_)
  refine wa_nil (h := ?_)
  refine n_list (h := ?_); walk_at "p1"
  refine e_var (h := ?_)
  refine s_attr (hk := st_sort_names _) (h := ?_); walk_at "p2"
  refine x_asga (h := ?_)
  refine e_list (h := ?_)
  refine wa_cons (h := ?_)
  refine e_int (h := ?_)
  refine wa_cons (h := ?_)
  refine e_int (h := ?_)
  refine wa_cons (h := ?_)
  refine e_int (h := ?_)
  refine wa_nil (h := ?_)
  refine n_list (h := ?_); walk_at "p1"
  refine e_var (h := ?_)
  refine s_attr (hk := st_sort_widths _) (h := ?_); walk_at "p2"
  refine x_asga (h := ?_)
  refine e_list (h := ?_)
  refine wa_nil (h := ?_)
  refine n_list (h := ?_); walk_at "p1"
  refine e_var (h := ?_)
  refine s_attr (hk := st_fun_names _) (h := ?_); walk_at "p2"
  refine x_asga (h := ?_)
  refine e_list (h := ?_)
  refine wa_nil (h := ?_)
  refine n_list (h := ?_); walk_at "p1"
  refine e_var (h := ?_)
  refine s_attr (hk := st_fun_args _) (h := ?_); walk_at "p2"
  refine x_asga (h := ?_)
  refine e_list (h := ?_)
  refine wa_nil (h := ?_)
  refine n_list (h := ?_); walk_at "p1"
  refine e_var (h := ?_)
  refine s_attr (hk := st_fun_results _) (h := ?_); walk_at "p2"
  refine x_asga (h := ?_)
  refine e_int (h := ?_)
  refine e_var (h := ?_)
  refine s_attr (hk := st_fresh_count _) (h := ?_); walk_at "p2"
  refine x_asga (h := ?_)
  refine e_list (h := ?_)
  refine wa_cons (h := ?_)
  refine e_str (h := ?_)
  refine wa_nil (h := ?_)
  refine n_list (h := ?_); walk_at "p1"
  refine e_var (h := ?_)
  refine s_attr (hk := st_term_ops _) (h := ?_); walk_at "p2"
  refine x_asga (h := ?_)
  refine e_list (h := ?_)
  refine wa_cons (h := ?_)
  refine e_tup (h := ?_)
  refine wa_nil (h := ?_)
  refine n_tup (h := ?_); walk_at "p1"
  refine wa_nil (h := ?_)
  refine n_list (h := ?_); walk_at "p1"
  refine e_var (h := ?_)
  refine s_attr (hk := st_term_args _) (h := ?_); walk_at "p2"
  refine x_asga (h := ?_)
  refine e_list (h := ?_)
  refine wa_cons (h := ?_)
  refine e_globI (hk := (gk_BOOL _)) (h := ?_); intro _
  refine wa_nil (h := ?_)
  refine n_list (h := ?_); walk_at "p1"
  refine e_var (h := ?_)
  refine s_attr (hk := st_term_sorts _) (h := ?_); walk_at "p2"
  refine x_asga (h := ?_)
  refine e_list (h := ?_)
  refine wa_cons (h := ?_)
  refine e_int (h := ?_)
  refine wa_nil (h := ?_)
  refine n_list (h := ?_); walk_at "p1"
  refine e_var (h := ?_)
  refine s_attr (hk := st_term_datas _) (h := ?_); walk_at "p2"
  refine x_asga (h := ?_)
  refine n_dict (h := ?_); walk_at "p3"
  refine e_var (h := ?_)
  refine s_attr (hk := st_numbers _) (h := ?_); walk_at "p2"
  refine x_asga (h := ?_)
  rename_i Dsn h1 l1 h2 es1 n1 hA1 hl1 Dsw h3 l2 h4 es2 n2 hA2 hl2 Dfn h5 l3 h6 es3 n3 hA3 hl3 Dfa h7 l4 h8 es4 n4 hA4 hl4 Dfr h9 l5 h10 es5 n5 hA5 hl5 h11 es6 n6 hA6 hl6 Dto h12 l6 h13 es7 n7 hA7 hl7 Dt0 h14 l7 Dta h15 l8 h16 es8 n8 hA8 hl8 t9 Dts h17 l9 h18 es9 n9 hA9 hl9 Dtd h19 l10 h20 es10 n10 hA10 hl10 Dnm h21 oN l11 lo11 hd11 h22 es11 n11 F11 N11 hA11 hl11
  obtain ⟨oSn, oSw, tO, tD, tc, hsw, hT, N12⟩ : ∃ (oSn oSw : Obj) (tO tD tc : Tok), (∃ u0 u1 u2 nz, oSw = listOf [Value.int 0 u0, .int 0 u1, .int 0 u2].toArray nz) ∧
      Ats es11 [(Str.ofString "numbers", .ref Dnm), (Str.ofString "term_datas", .ref Dtd), (Str.ofString "term_sorts", .ref Dts), (Str.ofString "term_args", .ref Dta), (Str.ofString "term_ops", .ref Dto), (Str.ofString "fresh_count", .int 0 tc), (Str.ofString "fun_results", .ref Dfr), (Str.ofString "fun_args", .ref Dfa), (Str.ofString "fun_names", .ref Dfn), (Str.ofString "sort_widths", .ref Dsw), (Str.ofString "sort_names", .ref Dsn)] ∧
      News g L h22 ((Dnm, oN) :: (Dtd, listOf [Value.int 0 tD].toArray 0) :: (Dts, listOf [Value.int 0 t9].toArray 0) :: (Dta, listOf [Value.ref Dt0].toArray 0) :: (Dt0, tup [] 0) :: (Dto, listOf [Value.str (Str.ofString "") tO].toArray 0) :: (Dfr, listOf ([] : List Value).toArray 0) :: (Dfa, listOf ([] : List Value).toArray 0) :: (Dfn, listOf ([] : List Value).toArray 0) :: (Dsw, oSw) :: (Dsn, oSn) :: (x, instObj 782 dx) :: (dx, dictOf es11 n11) :: rest0) := ⟨_, _, _, _, _, ⟨_, _, _, _, rfl⟩, hA11, N11⟩
  have hzz : es11.length ≤ 11 := by simp only [List.length_nil] at *; omega
  clear N11 hA1 hA2 hA3 hA4 hA5 hA6 hA7 hA8 hA9 hA10 hA11 hl1 hl2 hl3 hl4 hl5 hl6 hl7 hl8 hl9 hl10 hl11 hA0 hz0
  obtain ⟨a1, ha1⟩ : ∃ a1 : BA, a1 = ⟨x, dx, Dsw, Dfr, Dto, Dta, Dts, Dtd, Dnm, es11, n11, oSw, listOf ([] : List Value).toArray 0⟩ := ⟨_, rfl⟩
  obtain ⟨b1, hb1⟩ : ∃ b1 : BS, b1 = ⟨[(Str.ofString "", [], 0)], [.str (Str.ofString "") tO], [.ref Dt0], [.int 0 t9], [.int 0 tD], 0, 0, 0, 0, oN, []⟩ := ⟨_, rfl⟩
  obtain ⟨R1, hR1⟩ : ∃ R1 : Led, R1 = (Dt0, tup [] 0) :: (Dsn, oSn) :: (Dfn, listOf ([] : List Value).toArray 0) :: (Dfa, listOf ([] : List Value).toArray 0) :: rest0 := ⟨_, rfl⟩
  have N1 : News g L h22 (BL a1 b1 ++ R1) := by subst ha1 hb1 hR1; exact N12.perm (by kd_all)
  have e11 : a1.es = es11 := by subst ha1; rfl
  have hT1 := hT
  rw [← e11] at hT1
  have hO1 : a1.Ok0 := by
    subst ha1
    exact ⟨by dsimp only; omega, by dsimp only; omega, by dsimp only; omega, by dsimp only; omega, by dsimp only; omega, by dsimp only; omega, by dsimp only; omega, by dsimp only; omega, lo11, hT.get (by kernel_rfl!), hT.get (by kernel_rfl!), hT.get (by kernel_rfl!), hT.get (by kernel_rfl!), hT.get (by kernel_rfl!)⟩
  have hB1 : Bank w R1 b1 := by
    subst hb1 hR1
    refine ⟨⟨rfl, ?_⟩, ⟨rfl, ?_⟩, ⟨rfl, ?_⟩, ⟨rfl, ?_⟩, Nums.ofEmpty hd11, by simp, by simp, by simp⟩
    · intro i k hi
      cases i with
      | zero => obtain rfl := Option.some.inj hi; exact ⟨_, rfl, _, rfl⟩
      | succ i => simp at hi
    · intro i k hi
      cases i with
      | zero => obtain rfl := Option.some.inj hi; exact ⟨_, rfl, Dt0, rfl, [], 0, .head _, .nil⟩
      | succ i => simp at hi
    · intro i k hi
      cases i with
      | zero => exact ⟨_, rfl, _, rfl⟩
      | succ i => simp at hi
    · intro i k hi
      cases i with
      | zero => obtain rfl := Option.some.inj hi; exact ⟨_, rfl, _, rfl⟩
      | succ i => simp at hi
  have hOff1 : OwnOff R1 a1.adr := by
    have hge : ∀ b ∈ a1.adr, @LE.le Nat _ dx b := by
      subst ha1; intro b hb; simp only [BA.adr, List.mem_cons, List.not_mem_nil, or_false] at hb
      rcases hb with rfl | rfl | rfl | rfl | rfl | rfl | rfl | rfl | rfl <;> omega
    have hR0 : OwnOff rest0 a1.adr := fun p hp b hb => Nat.ne_of_lt (Nat.lt_of_lt_of_le (AllLt.mem hl0 p hp) (hge b hb))
    subst hR1
    refine offs (offs (offs (offs hR0 ?_) ?_) ?_) ?_
    all_goals (subst ha1; intro b hb; simp only [BA.adr, List.mem_cons, List.not_mem_nil, or_false] at hb; rcases hb with rfl | rfl | rfl | rfl | rfl | rfl | rfl | rfl | rfl <;> omega)
  have o1 : @LT.lt Nat _ Dsw Dfn ∧ @LT.lt Nat _ Dfn Dfa ∧ @LT.lt Nat _ Dfa Dfr ∧ @LT.lt Nat _ dx Dsn := ⟨by omega, by omega, by omega, by omega⟩
  have offX : OwnOff [(Dt0, tup [] 0), (Dsn, oSn)] [Dfn, Dfa] := by
    intro p hp b hb
    simp only [List.mem_cons, List.not_mem_nil, or_false] at hp hb
    rcases hp with rfl | rfl <;> rcases hb with rfl | rfl <;> (show @Ne Nat _ _; omega)
  have frX : Fresh [(Dt0, tup [] 0), (Dsn, oSn)] rest0 := by
    intro p hp
    refine AllLt.of fun q hq => ?_
    have hq' := AllLt.mem hl0 q hq
    have hp' : @LT.lt Nat _ dx p.1 := by
      simp only [List.mem_cons, List.not_mem_nil, or_false] at hp
      rcases hp with rfl | rfl <;> (dsimp only; omega)
    exact Nat.lt_trans hq' hp'
  clear l1 l2 l3 l4 l5 l6 l7 l8 l9 l10 l11
  have q_make : getL (Str.ofString "make") es11 = some none := hT.get (by kernel_rfl!)
  have hbk1 : (x, instObj 782 dx) ∈ BL a1 b1 ++ R1 := by subst ha1; exact .head _
  have hbd1 : (dx, dictOf es11 n11) ∈ BL a1 b1 ++ R1 := by subst ha1; exact .tail _ (.head _)
  clear N12
  refine e_mcall (hk := mk_make _) (h := ?_)
  refine wa_cons (h := ?_)
  refine e_str (h := ?_)
  refine wa_cons (h := ?_)
  refine e_tup (h := ?_)
  refine wa_nil (h := ?_)
  refine n_tup (h := ?_); walk_at "p1"
  refine wa_cons (h := ?_)
  refine e_globI (hk := (gk_BOOL _)) (h := ?_); intro _
  refine wa_cons (h := ?_)
  refine e_int (h := ?_)
  refine wa_nil (h := ?_)
  refine ⟨In.of (by with_reducible assumption) (by with_reducible assumption), ?_⟩
  rename Fr g L _ _ => F2
  rename News g L _ _ => N2
  rename AllLt _ (BL a1 b1 ++ R1) => lD1
  refine make_app (a := a1) (b := b1) B X T F2 N2 rfl (by omega) (by omega) hO1 hB1 (by subst hb1; exact Nat.le_of_ble_eq_true rfl) hOff1 lD1 (by subst hb1; dsimp only; decide) (by subst ha1; rfl) ?_
  intro t1 b2 tl1 h2' tk2 F3 N3 hB2 hT2 hf1 _
  clear F2 N2
  rw [show ((b1.T.length : Nat) : Int) = 1 by subst hb1; rfl]
  have hOff2 : OwnOff (tl1 ++ R1) a1.adr := OwnOff.app hf1.off hOff1
  refine e_var (h := ?_)
  refine s_bank (a := a1) (b := b2) (by subst ha1; rfl) F3 X N3 hO1 hOff2 hT1 (st_true_number _) (by rw [e11]; omega) fun h4' es3 n3 F4 N4 hA3 hl3 => ?_
  clear F3 N3
  rw [e11] at hl3
  obtain ⟨a2, ha2⟩ : ∃ a2 : BA, a2 = a1.at es3 n3 := ⟨_, rfl⟩
  rw [← ha2] at N4
  have hO2 : a2.Ok0 := by
    subst ha2 ha1
    obtain ⟨c1, c2, c3, c4, c5, c6, c7, c8, lo, -, -, -, -, -⟩ := hO1
    exact ⟨c1, c2, c3, c4, c5, c6, c7, c8, lo, hA3.get (by kernel_rfl!), hA3.get (by kernel_rfl!), hA3.get (by kernel_rfl!), hA3.get (by kernel_rfl!), hA3.get (by kernel_rfl!)⟩
  have hOff3 : OwnOff (tl1 ++ R1) a2.adr := by subst ha2; exact hOff2
  have q_make2 : getL (Str.ofString "make") es3 = some none := hA3.get (by kernel_rfl!)
  have hbk2 : (x, instObj 782 dx) ∈ BL a2 b2 ++ (tl1 ++ R1) := by subst ha2 ha1; exact .head _
  have hbd2 : (dx, dictOf es3 n3) ∈ BL a2 b2 ++ (tl1 ++ R1) := by subst ha2 ha1; exact .tail _ (.head _)
  have hT2' : b2.T = [(Str.ofString "", [], 0), (Str.ofString "true", [], 0)] := by rw [hT2, hb1]; rfl
  refine x_asga (h := ?_)
  refine e_mcall (hk := mk_make _) (h := ?_)
  refine wa_cons (h := ?_)
  refine e_str (h := ?_)
  refine wa_cons (h := ?_)
  refine e_tup (h := ?_)
  refine wa_nil (h := ?_)
  refine n_tup (h := ?_); walk_at "p1"
  refine wa_cons (h := ?_)
  refine e_globI (hk := (gk_BOOL _)) (h := ?_); intro _
  refine wa_cons (h := ?_)
  refine e_int (h := ?_)
  refine wa_nil (h := ?_)
  refine ⟨In.of (by with_reducible assumption) (by with_reducible assumption), ?_⟩
  rename Fr g L _ _ => F5
  rename News g L _ _ => N5
  rename AllLt _ (BL a2 b2 ++ _) => lD2
  refine make_app (a := a2) (b := b2) B X T F5 N5 rfl (by omega) (by omega) hO2 hB2 (by rw [hT2']; exact Nat.le_of_ble_eq_true rfl) hOff3 lD2 (by rw [hT2']; decide) (by subst ha2 ha1; rfl) ?_
  intro t2 b3 tl2 h6' tk6 F6 N6 hB3 hT3 hf2 _
  clear F5 N5
  rw [show ((b2.T.length : Nat) : Int) = 2 by rw [hT2']; rfl]
  have hOff4 : OwnOff (tl2 ++ (tl1 ++ R1)) a2.adr := OwnOff.app hf2.off hOff3
  refine e_var (h := ?_)
  refine s_bank (a := a2) (b := b3) (kvs := (Str.ofString "true_number", .int 1 t1) :: _) (by subst ha2 ha1; rfl) F6 X N6 hO2 hOff4 (by subst ha2; exact hA3) (st_false_number _) (by subst ha2; show es3.length ≤ 900; omega) fun h7' es5 n5' F7 N7 hA5' hl5' => ?_
  clear F6 N6
  refine x_nil (h := ?_)
  have memR : ∀ q ∈ rest0, q ∈ R1 := by subst hR1; intro q hq'; exact .tail _ (.tail _ (.tail _ (.tail _ hq')))
  have fnR : (Dfn, listOf ([] : List Value).toArray 0) ∈ R1 := by subst hR1; exact .tail _ (.tail _ (.head _))
  have faR : (Dfa, listOf ([] : List Value).toArray 0) ∈ R1 := by subst hR1; exact .tail _ (.tail _ (.tail _ (.head _)))
  have hX1 : ∀ p ∈ [(Dt0, tup [] 0), (Dsn, oSn)], p ∈ R1 := by
    subst hR1; intro p hp
    simp only [List.mem_cons, List.not_mem_nil, or_false] at hp
    rcases hp with rfl | rfl
    · exact .head _
    · exact .tail _ (.head _)
  have hR2 : ∀ p ∈ R1, p ∈ [(Dt0, tup [] 0), (Dsn, oSn)] ∨ p = (Dfn, listOf ([] : List Value).toArray 0) ∨ p = (Dfa, listOf ([] : List Value).toArray 0) ∨ p ∈ rest0 := by
    subst hR1; intro p hp
    simp only [List.mem_cons, List.not_mem_nil, or_false] at hp ⊢
    rcases hp with h | h | h | h | h
    · exact .inl (.inl h)
    · exact .inl (.inr h)
    · exact .inr (.inl h)
    · exact .inr (.inr (.inl h))
    · exact .inr (.inr (.inr h))
  have off5 : ∀ {tl : Led} {l : Led}, Fresh tl l → (∀ p ∈ R1, p ∈ l) → OwnOff tl a2.adr → OwnOff tl (Dfn :: Dfa :: a2.adr) := by
    intro tl l hf hs ho p hp b hb
    rcases List.mem_cons.mp hb with rfl | hb
    · exact Nat.ne_of_gt (AllLt.mem (hf p hp) _ (hs _ fnR))
    · rcases List.mem_cons.mp hb with rfl | hb
      · exact Nat.ne_of_gt (AllLt.mem (hf p hp) _ (hs _ faR))
      · exact ho p hp b hb
  have hOffX : OwnOff [(Dt0, tup [] 0), (Dsn, oSn)] (Dfn :: Dfa :: a2.adr) := by
    intro p hp b hb
    rcases List.mem_cons.mp hb with rfl | hb
    · exact offX p hp _ (.head _)
    · rcases List.mem_cons.mp hb with rfl | hb
      · exact offX p hp _ (.tail _ (.head _))
      · exact hOff3 p (List.mem_append_right _ (hX1 p hp)) b hb
  have s1 : ∀ p ∈ R1, p ∈ BL a1 b1 ++ R1 := fun p hp => List.mem_append_right _ hp
  have s2 : ∀ p ∈ R1, p ∈ BL a2 b2 ++ (tl1 ++ R1) := fun p hp => List.mem_append_right _ (List.mem_append_right _ hp)
  have e21 : a2.adr = a1.adr := by subst ha2; rfl
  have hTl : OwnOff (tl2 ++ (tl1 ++ [(Dt0, tup [] 0), (Dsn, oSn)])) (Dfn :: Dfa :: a2.adr) := OwnOff.app (off5 hf2 s2 hf2.off) (OwnOff.app (off5 hf1 s1 (by rw [e21]; exact hf1.off)) hOffX)
  have hFr : Fresh (tl2 ++ (tl1 ++ [(Dt0, tup [] 0), (Dsn, oSn)])) rest0 := by
    intro p hp
    rcases List.mem_append.mp hp with hp | hp
    · exact hf2.restOf (fun q hq' => s2 q (memR q hq')) p hp
    · rcases List.mem_append.mp hp with hp | hp
      · exact hf1.restOf (fun q hq' => s1 q (memR q hq')) p hp
      · exact frX p hp
  have hBf : Bank w ((tl2 ++ (tl1 ++ [(Dt0, tup [] 0), (Dsn, oSn)])) ++ rest0) b3 := hB3.mono' (by
    intro p hp hc
    rw [List.append_assoc, List.append_assoc]
    rcases List.mem_append.mp hp with hp | hp
    · exact List.mem_append_left _ hp
    · rcases List.mem_append.mp hp with hp | hp
      · exact List.mem_append_right _ (List.mem_append_left _ hp)
      · rcases hR2 p hp with h | h | h | h
        · exact List.mem_append_right _ (List.mem_append_right _ (List.mem_append_left _ h))
        · rw [h] at hc; injection hc with e; exact absurd e (by decide)
        · rw [h] at hc; injection hc with e; exact absurd e (by decide)
        · exact List.mem_append_right _ (List.mem_append_right _ (List.mem_append_right _ h)))
  have N8 : News g L h7' ((Dfn, listOf ([] : List Value).toArray 0) :: (Dfa, listOf ([] : List Value).toArray 0) :: (BL (a2.at es5 n5') b3 ++ ((tl2 ++ (tl1 ++ [(Dt0, tup [] 0), (Dsn, oSn)])) ++ rest0))) := N7.perm (by
    intro p hp
    rcases List.mem_cons.mp hp with h | hp
    · rw [h]; exact List.mem_append_right _ (List.mem_append_right _ (List.mem_append_right _ fnR))
    · rcases List.mem_cons.mp hp with h | hp
      · rw [h]; exact List.mem_append_right _ (List.mem_append_right _ (List.mem_append_right _ faR))
      · rw [List.append_assoc, List.append_assoc] at hp
        rcases List.mem_append.mp hp with hp | hp
        · exact List.mem_append_left _ hp
        · rcases List.mem_append.mp hp with hp | hp
          · exact List.mem_append_right _ (List.mem_append_left _ hp)
          · rcases List.mem_append.mp hp with hp | hp
            · exact List.mem_append_right _ (List.mem_append_right _ (List.mem_append_left _ hp))
            · rcases List.mem_append.mp hp with hp | hp
              · exact List.mem_append_right _ (List.mem_append_right _ (List.mem_append_right _ (hX1 p hp)))
              · exact List.mem_append_right _ (List.mem_append_right _ (List.mem_append_right _ (memR p hp))))
  have hT9 : b3.T = T3 := by rw [hT3, hT2']; rfl
  refine hq _ _ (back F7 N8 rfl ⟨rfl, a2.at es5 n5', b3, Dsn, Dfn, Dfa, _, t1, t2, tc, by subst ha2 ha1; rfl, by subst ha2 ha1; rfl, rfl, by subst ha2 ha1; exact hsw, by subst ha2 ha1; rfl, by subst ha2 ha1; exact hA5', ?_, ?_, by subst ha2 ha1; exact o1.1, o1.2.1, by subst ha2 ha1; exact o1.2.2.1, hBf, hT9, hTl, hFr⟩)
  · show es5.length ≤ 20
    have e2 : a2.es = es3 := by subst ha2; rfl
    rw [e2] at hl5'
    omega
  · subst ha2 ha1
    obtain ⟨c1, c2, c3, c4, c5, c6, c7, c8, lo, -, -, -, -, -⟩ := hO1
    exact ⟨c1, c2, c3, c4, c5, c6, c7, c8, lo, hA5'.get (by kernel_rfl!), hA5'.get (by kernel_rfl!), hA5'.get (by kernel_rfl!), hA5'.get (by kernel_rfl!), hA5'.get (by kernel_rfl!)⟩
/- Fc -/
/- declare_fun, fresh_const -/
theorem News.get' {g h : Heap} {L x : Addr} {o : Obj} {news : Led} (N : News g L h news) (hm : (x, o) ∈ news) : h.get? x = some o := N.get hm
noncomputable def BA.fro (a : BA) (o : Obj) : BA := ⟨a.bk, a.bd, a.sw, a.fr, a.to, a.ta, a.ts, a.td, a.nm, a.es, a.nE, a.swO, o⟩
theorem BL_obj (a : BA) (b : BS) : ∀ x ∈ a.adr, ∃ o, (x, o) ∈ BL a b := by
  intro x hx
  obtain ⟨p, hp, rfl⟩ := adr_BL (b := b) x hx
  exact ⟨p.2, hp⟩
set_option maxHeartbeats 8000000 in
theorem declare_does (w : World) {D U : Nat} (hD : D < 490) (hU : U < 1000) {a : BA} {b : BS} {rest : Led} {fn fa c : Addr} {fnv fav frv : List Value} {n1 n2 n3 : Nat} {nm : Str} {t1 t2 : Tok}
  (hA : a.Ok0) (gn : getL (Str.ofString "fun_names") a.es = some (some (.ref fn))) (ga : getL (Str.ofString "fun_args") a.es = some (some (.ref fa))) (gr : getL (Str.ofString "fun_results") a.es = some (some (.ref a.fr))) (hfr : a.frO = listOf frv.toArray n3)
  (hz1 : fnv.length ≤ 900) (hz2 : fav.length ≤ 900) (hz3 : frv.length ≤ 900) (hc : (c, tup [] 0) ∈ rest) (off : OwnOff rest (fn :: fa :: a.adr)) (k1 : @LT.lt Nat _ a.sw fn) (k2 : @LT.lt Nat _ fn fa) (k3 : @LT.lt Nat _ fa a.fr) :
  Does w 305 [.ref a.bk, .str nm t1, .ref c, .int 0 t2] D U ((fn, listOf fnv.toArray n1) :: (fa, listOf fav.toArray n2) :: (BL a b ++ rest)) (fun v news' => ∃ t, v = .int (fnv.length : Nat) t ∧ news' = (fn, listOf (fnv ++ [Value.str nm t1]).toArray (n1 + 1)) :: (fa, listOf (fav ++ [Value.ref c]).toArray (n2 + 1)) :: (BL (a.fro (listOf (frv ++ [Value.int 0 t2]).toArray (n3 + 1))) b ++ rest)) := by
  refine' does_intro' (names := [Str.ofString "self", Str.ofString "name", Str.ofString "arg_sorts", Str.ofString "result"]) (k := 0) (vals := [some (.ref a.bk), some (.str nm t1), some (.ref c), some (.int 0 t2)]) ?hvals ?ho ?hcd ?hD ?hbind ?hall ?hnd ?hco ?hgen ?hk ?hcell ?body
  tb_start
  intro K A0 base mean mg mb g L h gs dr os tk0 Q lv B X T F N lt hdp hun hq
  have hd1 := Nat.lt_of_le_of_lt hdp (Nat.add_lt_add_right hD 1)
  have hu1 := Nat.lt_of_le_of_lt hun (Nat.add_lt_add_right hU 3)
  show wpAny _ _ (execs (_ :: _) _) _ _ _
  have v0 := lv 0 (Str.ofString "self") rfl
  have v1 := lv 1 (Str.ofString "name") rfl
  have v2 := lv 2 (Str.ofString "arg_sorts") rfl
  have v3 := lv 3 (Str.ofString "result") rfl
  clear lv
  obtain ⟨bk, bd, sw, fr, to, ta, ts, td, nm', es, nE, swO, frO⟩ := a
  obtain ⟨c1, c2, c3, c4, c5, c6, c7, c8, lo, g3, g4, g5, g6, g7⟩ := hA
  dsimp only at hfr
  subst hfr
  dsimp only [BL, BA.adr, List.cons_append, List.nil_append] at *
  refine x_exprN (h := ?_)
  (refine' e_ameth ?Fz4 ?Nz4 ?Xz4 ?lz4 ?vz4 ?oz4 ?dz4 ?az4 ?kz4 ?nz4 ?ez4 ?zz4 ?pz4 (fun pl R h => gm_list PySem.F.slot_list_append PySem.F.type_list_append ?N2z4 ?mz4 h) ?_; (case Fz4 => with_reducible assumption); (case Nz4 => with_reducible assumption); (case Xz4 => with_reducible assumption); (case lz4 => with_reducible assumption); (case vz4 => exact rfl); (case oz4 => k_mem); (case dz4 => k_mem); (case az4 => with_reducible assumption); (case kz4 => exact ak_fun_names _); (case nz4 => exact rfl); (case ez4 => exact rfl); (case zz4 => exact rfl); (case pz4 => exact rfl); (case N2z4 => with_reducible assumption); (case mz4 => k_mem))
  refine wa_v1 (h := ?_)
  refine c_append (hz := by ((simp only [List.size_toArray, Array.size_push]); omega)) (h := ?_); intro _ _ _; k_sweep; refine ⟨rfl, ?_⟩
  refine x_exprN (h := ?_)
  (refine' e_ameth ?Fz5 ?Nz5 ?Xz5 ?lz5 ?vz5 ?oz5 ?dz5 ?az5 ?kz5 ?nz5 ?ez5 ?zz5 ?pz5 (fun pl R h => gm_list PySem.F.slot_list_append PySem.F.type_list_append ?N2z5 ?mz5 h) ?_; (case Fz5 => with_reducible assumption); (case Nz5 => with_reducible assumption); (case Xz5 => with_reducible assumption); (case lz5 => with_reducible assumption); (case vz5 => exact rfl); (case oz5 => k_mem); (case dz5 => k_mem); (case az5 => with_reducible assumption); (case kz5 => exact ak_fun_args _); (case nz5 => exact rfl); (case ez5 => exact rfl); (case zz5 => exact rfl); (case pz5 => exact rfl); (case N2z5 => with_reducible assumption); (case mz5 => k_mem))
  refine wa_cons (h := ?_)
  refine e_tcall (hk := (bk_tuple _)) (hb := bb_tuple) (hne := bn_tuple) (h := ?_)
  refine wa_v1 (h := ?_)
  (refine' call_tuple_tup ?tz6 ?_; (case tz6 => exact ⟨_, Mine.News.get' (by with_reducible assumption) (by k_mem), rfl, _, rfl⟩))
  refine wa_nil (h := ?_)
  refine c_append (hz := by ((simp only [List.size_toArray, Array.size_push]); omega)) (h := ?_); intro _ _ _; k_sweep; refine ⟨rfl, ?_⟩
  refine x_exprN (h := ?_)
  (refine' e_ameth ?Fz7 ?Nz7 ?Xz7 ?lz7 ?vz7 ?oz7 ?dz7 ?az7 ?kz7 ?nz7 ?ez7 ?zz7 ?pz7 (fun pl R h => gm_list PySem.F.slot_list_append PySem.F.type_list_append ?N2z7 ?mz7 h) ?_; (case Fz7 => with_reducible assumption); (case Nz7 => with_reducible assumption); (case Xz7 => with_reducible assumption); (case lz7 => with_reducible assumption); (case vz7 => exact rfl); (case oz7 => k_mem); (case dz7 => k_mem); (case az7 => with_reducible assumption); (case kz7 => exact ak_fun_results _); (case nz7 => exact rfl); (case ez7 => exact rfl); (case zz7 => exact rfl); (case pz7 => exact rfl); (case N2z7 => with_reducible assumption); (case mz7 => k_mem))
  refine wa_v1 (h := ?_)
  refine c_append (hz := by ((simp only [List.size_toArray, Array.size_push]); omega)) (h := ?_); intro _ _ _; k_sweep; refine ⟨rfl, ?_⟩
  refine x_ret (h := ?_)
  refine wpAny_BinOp ?_
  refine e_bcall (hk := (bk_len _)) (hb := bb_len) (hne := bn_len) (h := ?_)
  refine wa_cons (h := ?_)
  refine e_attr (hk := ak_fun_names _) (h := ?_)
  refine wa_nil (h := ?_)
  refine c_len (hz := by (first | (exact Nat.le_of_ble_eq_true rfl) | ((simp only [List.size_toArray, Array.size_push]); omega))) (h := ?_); try dsimp only
  refine e_int (h := ?_)
  refine o_sub (h := ?_)
  rename Fr g L _ _ => F2
  rename News g L _ _ => N2
  simp only [List.push_toArray] at N2
  refine hq _ _ (back F2 N2 rfl ⟨_, congrArg (fun z => Value.int z _) ?_, rfl⟩)
  simp
set_option maxHeartbeats 8000000 in
theorem fresh_does (w : World) {D U : Nat} (hD : D < 480) (hU : U < 900) {a : BA} {b : BS} {rest : Led} {fn fa : Addr} {fnv fav frv : List Value} {n1 n2 n3 : Nat} {nm : Str} {t1 t2 : Tok}
  (hA : a.Ok0) (hB : Bank w rest b) (hlen : b.T.length ≤ 900) (gn : getL (Str.ofString "fun_names") a.es = some (some (.ref fn))) (ga : getL (Str.ofString "fun_args") a.es = some (some (.ref fa))) (gr : getL (Str.ofString "fun_results") a.es = some (some (.ref a.fr))) (gm : getL (Str.ofString "make") a.es = some none) (gd' : getL (Str.ofString "declare_fun") a.es = some none) (hfr : a.frO = listOf frv.toArray n3)
  (hz1 : fnv.length ≤ 800) (hz2 : fav.length ≤ 800) (hz3 : frv.length ≤ 800) (off : OwnOff rest (fn :: fa :: a.adr)) (k1 : @LT.lt Nat _ a.sw fn) (k2 : @LT.lt Nat _ fn fa) (k3 : @LT.lt Nat _ fa a.fr) (hnew : (Str.ofString "app", [], (fnv.length : Int)) ∉ b.T) :
  Does w 319 [.ref a.bk, .str nm t1, .int 0 t2] D U ((fn, listOf fnv.toArray n1) :: (fa, listOf fav.toArray n2) :: (BL a b ++ rest)) (fun v news' => ∃ t b' tl c, v = .int (b.T.length : Nat) t ∧ news' = (fn, listOf (fnv ++ [Value.str nm t1]).toArray (n1 + 1)) :: (fa, listOf (fav ++ [Value.ref c]).toArray (n2 + 1)) :: (BL (a.fro (listOf (frv ++ [Value.int 0 t2]).toArray (n3 + 1))) b' ++ (tl ++ rest)) ∧
    (∀ led : Led, Bank w led b → (∀ p ∈ tl, p ∈ led) → Bank w led b') ∧ b'.T = b.T ++ [(Str.ofString "app", [], (fnv.length : Int))] ∧ OwnOff tl (fn :: fa :: a.adr) ∧ Fresh tl rest) := by
  refine' does_intro' (names := [Str.ofString "self", Str.ofString "name", Str.ofString "s"]) (k := 0) (vals := [some (.ref a.bk), some (.str nm t1), some (.int 0 t2)]) ?hvals ?ho ?hcd ?hD ?hbind ?hall ?hnd ?hco ?hgen ?hk ?hcell ?body
  tb_start
  intro K A0 base mean mg mb g L h gs dr os tk0 Q lv B X T F N lt hdp hun hq
  have hd1 := Nat.lt_of_le_of_lt hdp (Nat.add_lt_add_right hD 1)
  have hu1 := Nat.lt_of_le_of_lt hun (Nat.add_lt_add_right hU 3)
  show wpAny _ _ (execs (_ :: _) _) _ _ _
  have v0 := lv 0 (Str.ofString "self") rfl
  have v1 := lv 1 (Str.ofString "name") rfl
  have v2 := lv 2 (Str.ofString "s") rfl
  clear lv
  have hbk : (a.bk, instObj 782 a.bd) ∈ (fn, listOf fnv.toArray n1) :: (fa, listOf fav.toArray n2) :: (BL a b ++ rest) := .tail _ (.tail _ (.head _))
  have hbd : (a.bd, dictOf a.es a.nE) ∈ (fn, listOf fnv.toArray n1) :: (fa, listOf fav.toArray n2) :: (BL a b ++ rest) := .tail _ (.tail _ (.tail _ (.head _)))
  refine x_ret (h := ?_)
  refine e_mcall (hk := mk_make _) (h := ?_)
  refine wa_cons (h := ?_)
  refine e_str (h := ?_)
  refine wa_cons (h := ?_)
  refine e_tup (h := ?_)
  refine wa_nil (h := ?_)
  refine n_tup (h := ?_); walk_at "p1"
  refine wa_v (h := ?_)
  refine wa_cons (h := ?_)
  refine e_mcall (hk := mk_declare_fun _) (h := ?_)
  refine wa_v (h := ?_)
  refine wa_cons (h := ?_)
  refine e_tup (h := ?_)
  refine wa_nil (h := ?_)
  refine n_tup (h := ?_); walk_at "p1"
  refine wa_v1 (h := ?_)
  refine ⟨In.of (by with_reducible assumption) (by with_reducible assumption), ?_⟩
  rename Fr g L _ _ => F2
  rename News g L _ _ => N2
  rename_i D1 h1 l1 D2 h2 l2
  obtain ⟨l11, l12, l13⟩ := l1
  obtain ⟨-, l22, l23, l24⟩ := l2
  have o1 : ∀ {D : Addr}, @LT.lt Nat _ fn D → @LT.lt Nat _ fa D → AllLt D (BL a b ++ rest) → ∀ y ∈ fn :: fa :: a.adr, @Ne Nat D y := by
    intro D e1 e2 e3 y hy
    rcases List.mem_cons.mp hy with rfl | hy
    · exact Nat.ne_of_gt e1
    · rcases List.mem_cons.mp hy with rfl | hy
      · exact Nat.ne_of_gt e2
      · exact Nat.ne_of_gt (adr_lt e3 y hy)
  refine Does.use' (declare_does w (a := a) (b := b) (fnv := fnv) (fav := fav) (frv := frv) (rest := (D2, tup [] 0) :: (D1, tup [] 0) :: rest) (by omega) (by omega) hA gn ga gr hfr (by omega) (by omega) (by omega) (.head _) (offs (offs off (o1 l11 l12 l13)) (o1 l22 l23 l24)) k1 k2 k3) rfl B X T F2 (N2.perm (by
    intro p hp
    simp only [List.mem_cons, List.mem_append] at hp ⊢
    rcases hp with h | h | h | h | h | h
    · exact .inr (.inr (.inl h))
    · exact .inr (.inr (.inr (.inl h)))
    · exact .inr (.inr (.inr (.inr (.inl h))))
    · exact .inl h
    · exact .inr (.inl h)
    · exact .inr (.inr (.inr (.inr (.inr h)))))) rfl (Nat.le_refl _) (Nat.le_refl _) ?_
  rintro v' h' tk' news' F' N' ⟨t, rfl, rfl⟩
  refine wa_nil (h := ?_)
  refine ⟨In.of (by with_reducible assumption) (by with_reducible assumption), ?_⟩
  have hA' : (a.fro (listOf (frv ++ [Value.int 0 t2]).toArray (n3 + 1))).Ok0 := ⟨hA.c1, hA.c2, hA.c3, hA.c4, hA.c5, hA.c6, hA.c7, hA.c8, hA.lo, hA.g3, hA.g4, hA.g5, hA.g6, hA.g7⟩
  have hne : ∀ {y : Addr}, @LT.lt Nat _ a.sw y → @LT.lt Nat _ y a.fr → ∀ z ∈ a.adr, @Ne Nat y z := by
    intro y e1 e2 z hz
    obtain ⟨c1, c2, c3, c4, c5, c6, c7, c8, -, -, -, -, -, -⟩ := hA
    simp only [BA.adr, List.mem_cons, List.not_mem_nil, or_false] at hz
    rcases hz with rfl | rfl | rfl | rfl | rfl | rfl | rfl | rfl | rfl <;> omega
  have offR : OwnOff rest a.adr := fun p hp y hy => off p hp y (.tail _ (.tail _ hy))
  refine make_app (a := a.fro (listOf (frv ++ [Value.int 0 t2]).toArray (n3 + 1))) (b := b) (rest := (fn, listOf (fnv ++ [Value.str nm t1]).toArray (n1 + 1)) :: (fa, listOf (fav ++ [Value.ref D2]).toArray (n2 + 1)) :: rest) B X T F' (N'.perm (by
    intro p hp
    simp only [List.mem_cons, List.mem_append] at hp ⊢
    rcases hp with h | h | h | h | h
    · exact .inr (.inr (.inr (.inr (.inl h))))
    · exact .inr (.inr (.inl h))
    · exact .inl h
    · exact .inr (.inl h)
    · exact .inr (.inr (.inr (.inr (.inr h)))))) rfl (by omega) (by omega) hA' (hB.mono fun p hp => .tail _ (.tail _ hp)) (by omega) (offs (offs offR (hne (by omega) k3)) (hne k1 (by omega))) ?_ hnew rfl ?_
  · refine AllLt.of fun q hq' => ?_
    rcases List.mem_append.mp hq' with h | h
    · have hq2 : q.1 ∈ a.adr := BL_adr (a := a.fro (listOf (frv ++ [Value.int 0 t2]).toArray (n3 + 1))) (b := b) q h
      obtain ⟨o, ho⟩ := BL_obj a b q.1 hq2
      exact AllLt.mem l13 (q.1, o) (List.mem_append_left _ ho)
    · rcases List.mem_cons.mp h with rfl | h
      · exact l11
      · rcases List.mem_cons.mp h with rfl | h
        · exact l12
        · exact AllLt.mem l13 q (List.mem_append_right _ h)
  · intro t5 b' tl h5 tk5 F5 N5 hB5 hT5 hf5 hr5
    have mfn : ∀ {o}, (fn, o) ∈ (fn, o) :: (fa, listOf (fav ++ [Value.ref D2]).toArray (n2 + 1)) :: rest := .head _
    have hfo : ∀ p ∈ tl, ∀ y ∈ fn :: fa :: a.adr, @Ne Nat p.1 y := by
      intro p hp y hy
      have hl := AllLt.mem (hf5 p hp)
      rcases List.mem_cons.mp hy with rfl | hy
      · exact Nat.ne_of_gt (hl _ (List.mem_append_right _ (.head _)))
      · rcases List.mem_cons.mp hy with rfl | hy
        · exact Nat.ne_of_gt (hl _ (List.mem_append_right _ (.tail _ (.head _))))
        · exact hf5.off p hp y hy
    refine hq _ _ (back F5 (N5.perm (news' := (fn, listOf (fnv ++ [Value.str nm t1]).toArray (n1 + 1)) :: (fa, listOf (fav ++ [Value.ref D2]).toArray (n2 + 1)) :: (BL (a.fro (listOf (frv ++ [Value.int 0 t2]).toArray (n3 + 1))) b' ++ (tl ++ rest))) (by
      intro p hp
      simp only [List.mem_cons, List.mem_append] at hp ⊢
      rcases hp with h | h | h | h | h
      · exact .inr (.inr (.inl h))
      · exact .inr (.inr (.inr (.inl h)))
      · exact .inl h
      · exact .inr (.inl h)
      · exact .inr (.inr (.inr (.inr h))))) rfl ⟨t5, b', tl, D2, rfl, rfl, hr5, hT5, hfo, hf5.restOf fun q h => List.mem_append_right _ (.tail _ (.tail _ h))⟩)
/- Tb -/
noncomputable def BankMade (w : World) (x dx : Addr) (rest0 : Led) (news' : Led) : Prop :=
  ∃ (a : BA) (b : BS) (sn fn fa : Addr) (tl : Led) (t1 t2 tc : Tok) (bv : Addr), a.bk = x ∧ a.bd = dx ∧ news' = (fn, listOf ([] : List Value).toArray 0) :: (fa, listOf ([] : List Value).toArray 0) :: (BL a b ++ (tl ++ rest0)) ∧
    (∃ u0 u1 u2 nz, a.swO = listOf [Value.int 0 u0, .int 0 u1, .int 0 u2].toArray nz) ∧ a.frO = listOf ([] : List Value).toArray 0 ∧ Ats a.es ((Str.ofString "bv_numbers", .ref bv) :: bankAts a fn fa sn t1 t2 tc) ∧ a.Ok0 ∧ @LT.lt Nat _ a.sw fn ∧ @LT.lt Nat _ fn fa ∧ @LT.lt Nat _ fa a.fr ∧
    Bank w (tl ++ rest0) b ∧ b.T = T3 ∧ OwnOff tl (fn :: fa :: a.adr) ∧ Fresh tl rest0
set_option maxHeartbeats 16000000 in
theorem tb_does (w : World) {D U : Nat} (hD : D < 470) (hU : U < 800) {x dx : Addr} {rest0 : Led} (hx : @LT.lt Nat _ dx x) (hl0 : AllLt dx rest0) :
  DoesC w 681 [.ref x] D U ((x, instObj 782 dx) :: (dx, dictOf [] 0) :: rest0) (fun v news' => v = .none ∧ BankMade w x dx rest0 news') := by
  intro dp un gd cn cs L a ccd cl outer g m s R ⟨A₀, base, mean, mg, mb, B, X, T⟩ F N hcs hdp hun hret
  obtain ⟨hp, gs, dr, tk, os⟩ := s
  refine' ks_code_super (A := ktrTop dp un gd cn cs L a ccd cl outer) (binds := [Str.ofString "self"].zip [Value.ref x]) B F X N T rfl rfl hcs ?ho ?hcd ?hroom ?bind ?loc ?body ?c1 ?c2 ?c3 ?c4
  case ho => k_is
  case hcd => k_is
  case hroom => (show dp < recursionLimit; unfold recursionLimit; omega)
  case bind => exact BindsTo.of_eq rfl
  case loc => exact locs rfl
  case c1 => decide
  case c2 => exact rfl
  case c3 => exact rfl
  case c4 => exact rfl
  intro g' L' h₁ FG F' N' B' X' T' lt
  have F2 : Fr g' L' h₁ (lkv [Str.ofString "self"] [some (Value.ref x)]) := by
    have e := lkv_start (names := [Str.ofString "self"]) (vs := [Value.ref x]) (k := 0) (by decide)
    have F3 := F'
    rw [e] at F3
    exact F3
  clear F'
  have B2 := B'
  clear B'
  show PySem.wpAt _ _ (Code.func (_ :: _) _) (execs (_ :: _) _) _ _ _
  walk1
  walk1
  walk1
  walk1
  walk1
  walk1
  rename Fr g' L' _ _ => F3
  rename News g' L' _ _ => N3
  refine call_meth N3 (.head _) ?_
  show codeAny _ (ktrTop (dp + 1) (un + 3) gd _ _ L' 681 _ _ (envX cn cs L a ccd cl :: outer)) _ _ _
  refine DoesC.use (init_does w (rest0 := rest0) (by omega) (by omega) hx hl0) B2 X' T' F3 (N3.perm (fun p hp => .tail _ (.tail _ hp))) rfl (Nat.le_refl _) (Nat.le_refl _) ?_
  rintro v h' tk' news' F4 N4 ⟨rfl, a', b', sn, fn, fa, tl, t1, t2, tc, ha1, ha2, rfl, hsw, hfr, hAt, hz, hO, k1, k2, k3, hB, hT, hTl, hFr⟩
  clear F2 F3 N3
  dsimp only
  refine wpAt_of_wpAny (wpAny_mono (E := fun _ _ => False) ?_ (fun _ _ h => h) fun _ _ h => h.elim)
  refine x_asga rfl ?_
  refine n_dict F4 N4 (Top.nolimit T') fun D h5 oD F5 N5 lD loD hdD => ?_
  refine e_var (i := 0) F5 ⟨by kernel_rfl!, rfl, by decide⟩ rfl ?_
  obtain ⟨lD1, lD2, lD3⟩ := lD
  have hne : ∀ {y : Addr}, @LT.lt Nat _ a'.sw y → @LT.lt Nat _ y a'.fr → ∀ z ∈ a'.adr, @Ne Nat y z := by
    intro y e1 e2 z hz
    obtain ⟨c1, c2, c3, c4, c5, c6, c7, c8, -, -, -, -, -, -⟩ := hO
    simp only [BA.adr, List.mem_cons, List.not_mem_nil, or_false] at hz
    rcases hz with rfl | rfl | rfl | rfl | rfl | rfl | rfl | rfl | rfl <;> omega
  have hge : ∀ z ∈ a'.adr, @LE.le Nat _ dx z := by
    rw [← ha2]
    intro z hz
    obtain ⟨c1, c2, c3, c4, c5, c6, c7, c8, -, -, -, -, -, -⟩ := hO
    simp only [BA.adr, List.mem_cons, List.not_mem_nil, or_false] at hz
    rcases hz with rfl | rfl | rfl | rfl | rfl | rfl | rfl | rfl | rfl <;> omega
  have hR0 : OwnOff rest0 a'.adr := fun p hp b hb => Nat.ne_of_lt (Nat.lt_of_lt_of_le (AllLt.mem hl0 p hp) (hge b hb))
  have hDa : ∀ z ∈ a'.adr, @LT.lt Nat _ z D := adr_lt lD3
  have off6 : OwnOff ((D, oD) :: (fn, listOf ([] : List Value).toArray 0) :: (fa, listOf ([] : List Value).toArray 0) :: (tl ++ rest0)) a'.adr := offs (offs (offs (OwnOff.app (fun p hp y hy => hTl p hp y (.tail _ (.tail _ hy))) hR0) (hne (by omega) k3)) (hne k1 (by omega))) (fun z hz => Nat.ne_of_gt (hDa z hz))
  refine s_bank (rest := (D, oD) :: (fn, listOf ([] : List Value).toArray 0) :: (fa, listOf ([] : List Value).toArray 0) :: (tl ++ rest0)) ha1 F5 X' (N5.perm (by
    intro p hp
    simp only [List.mem_cons, List.mem_append] at hp ⊢
    rcases hp with h | h | h | h | h
    · exact .inr (.inr (.inr (.inl h)))
    · exact .inl h
    · exact .inr (.inl h)
    · exact .inr (.inr (.inl h))
    · exact .inr (.inr (.inr (.inr h))))) hO off6 hAt (st_bv_numbers _) (by omega) fun h6 es6 n6 F6 N7 hAt6 hl6 => ?_
  refine x_nil ?_
  have hlD : AllLt D rest0 := AllLt.of fun q hq => AllLt.mem lD3 q (List.mem_append_right _ (List.mem_append_right _ hq))
  refine leaveK_ F6 (N7.perm (news' := (fn, listOf ([] : List Value).toArray 0) :: (fa, listOf ([] : List Value).toArray 0) :: (BL (a'.at es6 n6) b' ++ (((D, oD) :: tl) ++ rest0))) (by
    intro p hp
    simp only [List.mem_cons, List.mem_append] at hp ⊢
    rcases hp with h | h | h | (h | h) | h
    · exact .inr (.inr (.inl h))
    · exact .inr (.inr (.inr (.inl h)))
    · exact .inl h
    · exact .inr (.inl h)
    · exact .inr (.inr (.inr (.inr (.inl h))))
    · exact .inr (.inr (.inr (.inr (.inr h)))))) fun F8 N8 => ?_
  refine hret .none h6 _ _ F8 N8 ⟨rfl, a'.at es6 n6, b', sn, fn, fa, (D, oD) :: tl, t1, t2, tc, D, ha1, ha2, rfl, hsw, hfr, hAt6, ?_, k1, k2, k3, hB.mono fun p hp => .tail _ hp, hT, offs hTl ?_, ?_⟩
  · obtain ⟨c1, c2, c3, c4, c5, c6, c7, c8, lo, -, -, -, -, -⟩ := hO
    exact ⟨c1, c2, c3, c4, c5, c6, c7, c8, lo, hAt6.get (by kernel_rfl!), hAt6.get (by kernel_rfl!), hAt6.get (by kernel_rfl!), hAt6.get (by kernel_rfl!), hAt6.get (by kernel_rfl!)⟩
  · intro z hz
    rcases List.mem_cons.mp hz with rfl | hz
    · exact Nat.ne_of_gt lD1
    · rcases List.mem_cons.mp hz with rfl | hz
      · exact Nat.ne_of_gt lD2
      · exact Nat.ne_of_gt (hDa z hz)
  · intro p hp
    rcases List.mem_cons.mp hp with rfl | hp
    · exact hlD
    · exact hFr p hp
/- Lf -/
theorem ok_of_ats {a : BA} {fn fa sn bv : Addr} {t1 t2 tc : Tok} (hO : a.Ok0) (hT : Ats a.es ((Str.ofString "bv_numbers", .ref bv) :: bankAts a fn fa sn t1 t2 tc)) : a.Ok := by
  obtain ⟨c1, c2, c3, c4, c5, c6, c7, c8, lo, g3, g4, g5, g6, g7⟩ := hO
  refine ⟨c1, c2, c3, c4, c5, c6, c7, c8, lo, ⟨t1, hT.get (by kernel_rfl!)⟩, ⟨t2, hT.get (by kernel_rfl!)⟩, hT.get (by kernel_rfl!), hT.get (by kernel_rfl!), g3, g4, g5, g6, g7, ?_⟩
  intro x hx
  simp only [List.mem_cons, List.not_mem_nil, or_false] at hx
  rcases hx with rfl | rfl | rfl | rfl | rfl | rfl | rfl | rfl | rfl | rfl | rfl | rfl | rfl | rfl | rfl | rfl | rfl | rfl | rfl | rfl
  all_goals exact hT.get (by kernel_rfl!)
noncomputable def appT (kk : Nat) : List Key := T3 ++ (List.range kk).map (fun i : Nat => (Str.ofString "app", [], (i : Int)))
theorem appT_wf : Wf (appT 3) := by
  refine ⟨rfl, rfl, rfl, rfl, rfl, ?_⟩
  intro i k hi h1
  match i, h1 with
  | 1, _ => obtain rfl := Option.some.inj (show some (Str.ofString "true", ([] : List Int), (0 : Int)) = some k from hi); exact .tru rfl
  | 2, _ => obtain rfl := Option.some.inj (show some (Str.ofString "false", ([] : List Int), (0 : Int)) = some k from hi); exact .fls rfl
  | 3, _ => obtain rfl := Option.some.inj (show some (Str.ofString "app", ([] : List Int), ((0 : Nat) : Int)) = some k from hi); exact .app 0 rfl (by decide)
  | 4, _ => obtain rfl := Option.some.inj (show some (Str.ofString "app", ([] : List Int), ((1 : Nat) : Int)) = some k from hi); exact .app 1 rfl (by decide)
  | 5, _ => obtain rfl := Option.some.inj (show some (Str.ofString "app", ([] : List Int), ((2 : Nat) : Int)) = some k from hi); exact .app 2 rfl (by decide)
  | i + 6, _ =>
    have : (appT 3)[i + 6]? = none := by rw [List.getElem?_eq_none_iff]; show 6 ≤ i + 6; omega
    rw [this] at hi; exact nomatch hi
theorem appT_new (kk : Nat) : (Str.ofString "app", [], (kk : Int)) ∉ appT kk := by
  intro h
  unfold appT T3 at h
  rcases List.mem_append.mp h with h | h
  · simp only [List.mem_cons, List.not_mem_nil, or_false, Prod.mk.injEq] at h
    rcases h with h | h | h <;> exact absurd h.1 (by decide)
  · obtain ⟨i, hi, e⟩ := List.mem_map.mp h
    have := List.mem_range.mp hi
    have e2 : (i : Int) = kk := congrArg (fun z : Key => z.2.2) e
    omega
theorem appT_succ (kk : Nat) : appT (kk + 1) = appT kk ++ [(Str.ofString "app", [], (kk : Int))] := by
  unfold appT; rw [List.range_succ, List.map_append, ← List.append_assoc]; rfl
theorem appT_len (kk : Nat) : (appT kk).length = 3 + kk := by unfold appT T3; simp; omega
noncomputable def Apart (tl l : Led) : Prop := ∀ p ∈ tl, ∀ q ∈ l, @Ne Nat p.1 q.1
noncomputable def LvSt (w : World) (a0 : BA) (fn fa : Addr) (R0 : Led) (kk : Nat) (ys : List Value) (nx : Led) : Prop :=
  ∃ (b : BS) (tl : Led) (fnv fav frv : List Value) (n1 n2 n3 : Nat), nx = (fn, listOf fnv.toArray n1) :: (fa, listOf fav.toArray n2) :: (BL (a0.fro (listOf frv.toArray n3)) b ++ (tl ++ R0)) ∧ fnv.length = kk ∧ fav.length = kk ∧ frv.length = kk ∧ (∀ v ∈ frv, ∃ u, v = .int 0 u) ∧
    IntsAre ys ((List.range kk).map fun i => ((3 + i : Nat) : Int)) ∧ Bank w (tl ++ R0) b ∧ b.T = appT kk ∧ OwnOff tl (fn :: fa :: a0.adr) ∧ Apart tl R0
theorem leaf_step {w : World} {dp un : Nat} {gd : Option (List Code)} {cn : Str} {cs : Scope} {L a' : Addr} {ccd : Value} {cl : List (Str × Addr)} {outer : List Env} {A₀ : Around} {base g : Heap} {mean : ExcName → Option Value} {mg mb : Str → Option Value} {m : Str → Option Value} {hp : Heap} {gs : Array GenState} {dr : Drawn} {tk : Nat} {os : OsState} {E : Value → Shared → Prop}
    {a0 : BA} {fn fa I C D : Addr} {oI oC : Obj} {R0 nx : Led} {kk : Nat} {ys : List Value} {nm : Str} {t1 t2 : Tok}
    (B : Below A₀ base outer g) (X : (heapK w.params).In g) (T : Top viewK (looseW viewK [Str.ofString "MOST_BITS"]) mean mg mb g) (F : Fr g L hp m) (N : News g L hp ((I, oI) :: (C, oC) :: (D, LCg.lst ys) :: nx)) (hk : cs.kind = .function) (hdp : dp < 480) (hun : un < 900)
    (hS : LvSt w a0 fn fa R0 kk ys nx) (off : LCg.Off3 I C D nx) (hkk : kk < 3) (hA : a0.Ok0) (gn : getL (Str.ofString "fun_names") a0.es = some (some (.ref fn))) (ga : getL (Str.ofString "fun_args") a0.es = some (some (.ref fa))) (gr : getL (Str.ofString "fun_results") a0.es = some (some (.ref a0.fr))) (gm : getL (Str.ofString "make") a0.es = some none) (gd' : getL (Str.ofString "declare_fun") a0.es = some none)
    (k1 : @LT.lt Nat _ a0.sw fn) (k2 : @LT.lt Nat _ fn fa) (k3 : @LT.lt Nat _ fa a0.fr) (offR : OwnOff R0 (fn :: fa :: a0.adr)) :
    wpAny (model PRG w) (ktrTop dp un gd cn cs L a' ccd cl outer) (call (.ref 319) [.ref a0.bk, .str nm t1, .int 0 t2]) (EltEnd g L m gs dr os I oI C oC D ys (LvSt w a0 fn fa R0 (kk + 1))) E ⟨hp, gs, dr, tk, os⟩ := by
  obtain ⟨b, tl, fnv, fav, frv, n1, n2, n3, rfl, e1, e2, e3, hz, hys, hB, hT, hTl, hFr⟩ := hS
  have hoff := off.mem
  have k : ∀ {x : Addr}, (∀ p ∈ (fn, listOf fnv.toArray n1) :: (fa, listOf fav.toArray n2) :: (BL (a0.fro (listOf frv.toArray n3)) b ++ (tl ++ R0)), @Ne Nat p.1 x) → ∀ z ∈ fn :: fa :: a0.adr, @Ne Nat x z := by
    intro x h z hz
    rcases List.mem_cons.mp hz with rfl | hz
    · exact Ne.symm (h _ (.head _))
    · rcases List.mem_cons.mp hz with rfl | hz
      · exact Ne.symm (h _ (.tail _ (.head _)))
      · obtain ⟨o, ho⟩ := BL_obj (a0.fro (listOf frv.toArray n3)) b z hz
        exact Ne.symm (h _ (.tail _ (.tail _ (List.mem_append_left _ ho))))
  have hO : (a0.fro (listOf frv.toArray n3)).Ok0 := ⟨hA.c1, hA.c2, hA.c3, hA.c4, hA.c5, hA.c6, hA.c7, hA.c8, hA.lo, hA.g3, hA.g4, hA.g5, hA.g6, hA.g7⟩
  have hbl : b.T.length = 3 + kk := by rw [hT, appT_len]
  refine Does.use' (fresh_does w (a := a0.fro (listOf frv.toArray n3)) (b := b) (rest := (I, oI) :: (C, oC) :: (D, LCg.lst ys) :: (tl ++ R0)) (fn := fn) (fa := fa) (fnv := fnv) (fav := fav) (frv := frv) (n1 := n1) (n2 := n2) (n3 := n3) (nm := nm) (t1 := t1) (t2 := t2) hdp hun hO (hB.mono fun p hp => .tail _ (.tail _ (.tail _ hp))) (by omega) gn ga gr gm gd' rfl (by omega) (by omega) (by omega)
    (offs (offs (offs (OwnOff.app hTl offR) (k fun p hp => (hoff p hp).2.2)) (k fun p hp => (hoff p hp).2.1)) (k fun p hp => (hoff p hp).1)) k1 k2 k3 (by rw [e1, hT]; exact appT_new kk)) rfl B X T F (N.perm (by
    intro p hp
    simp only [List.mem_cons, List.mem_append] at hp ⊢
    rcases hp with h | h | h | h | h | h | h
    · exact .inr (.inr (.inr (.inl h)))
    · exact .inr (.inr (.inr (.inr (.inl h))))
    · exact .inr (.inr (.inr (.inr (.inr (.inl h)))))
    · exact .inl h
    · exact .inr (.inl h)
    · exact .inr (.inr (.inl h))
    · exact .inr (.inr (.inr (.inr (.inr (.inr h))))))) hk (Nat.le_refl _) (Nat.le_refl _) ?_
  rintro v h' tk' news' F' N' ⟨t, b', tl', c, rfl, rfl, hr, hT', hTl', hFr'⟩
  have fr : ∀ p ∈ tl', ∀ q ∈ (I, oI) :: (C, oC) :: (D, LCg.lst ys) :: (tl ++ R0), @LT.lt Nat _ q.1 p.1 := fun p hp q hq => AllLt.mem (hFr' p hp) q hq
  refine ⟨h', tk', (fn, listOf (fnv ++ [Value.str nm t1]).toArray (n1 + 1)) :: (fa, listOf (fav ++ [Value.ref c]).toArray (n2 + 1)) :: (BL (a0.fro (listOf (frv ++ [Value.int 0 t2]).toArray (n3 + 1))) b' ++ ((tl' ++ tl) ++ R0)), rfl, F', N'.perm (by
    intro p hp
    simp only [List.mem_cons, List.mem_append] at hp
    show p ∈ (fn, _) :: (fa, _) :: (BL (a0.fro (listOf (frv ++ [Value.int 0 t2]).toArray (n3 + 1))) b' ++ (tl' ++ ((I, oI) :: (C, oC) :: (D, LCg.lst ys) :: (tl ++ R0))))
    simp only [List.mem_cons, List.mem_append]
    rcases hp with h | h | h | h | h | h | (h | h) | h
    · exact .inr (.inr (.inr (.inr (.inl h))))
    · exact .inr (.inr (.inr (.inr (.inr (.inl h)))))
    · exact .inr (.inr (.inr (.inr (.inr (.inr (.inl h))))))
    · exact .inl h
    · exact .inr (.inl h)
    · exact .inr (.inr (.inl h))
    · exact .inr (.inr (.inr (.inl h)))
    · exact .inr (.inr (.inr (.inr (.inr (.inr (.inr (.inl h)))))))
    · exact .inr (.inr (.inr (.inr (.inr (.inr (.inr (.inr h)))))))), ?_, b', tl' ++ tl, _, _, _, _, _, _, rfl, by simp [e1], by simp [e2], by simp [e3], ?_, ?_, ?_, ?_, OwnOff.app hTl' hTl, ?_⟩
  · refine LCg.Off3.of fun p hp => ?_
    have key : ∀ x ∈ a0.adr, @Ne Nat x I ∧ @Ne Nat x C ∧ @Ne Nat x D := by
      intro x hx
      obtain ⟨o, ho⟩ := BL_obj (a0.fro (listOf frv.toArray n3)) b x hx
      exact hoff _ (.tail _ (.tail _ (List.mem_append_left _ ho)))
    rcases List.mem_cons.mp hp with rfl | hp
    · exact hoff (fn, listOf fnv.toArray n1) (.head _)
    rcases List.mem_cons.mp hp with rfl | hp
    · exact hoff (fa, listOf fav.toArray n2) (.tail _ (.head _))
    rcases List.mem_append.mp hp with hp | hp
    · exact key _ (BL_adr (a := a0.fro (listOf (frv ++ [Value.int 0 t2]).toArray (n3 + 1))) (b := b') p hp)
    rw [List.append_assoc] at hp
    rcases List.mem_append.mp hp with hp | hp
    · have h := fr p hp
      exact ⟨Nat.ne_of_gt (h _ (.head _)), Nat.ne_of_gt (h _ (.tail _ (.head _))), Nat.ne_of_gt (h _ (.tail _ (.tail _ (.head _))))⟩
    · exact hoff _ (.tail _ (.tail _ (List.mem_append_right _ hp)))
  · intro v hv
    rcases List.mem_append.mp hv with hv | hv
    · exact hz v hv
    · exact ⟨t2, List.mem_singleton.mp hv⟩
  · rw [hbl, List.range_succ, List.map_append]
    exact ints_app1 hys
  · exact hr _ (hB.mono fun p hp => by rw [List.append_assoc]; exact List.mem_append_right _ hp) (fun p hp => List.mem_append_left _ (List.mem_append_left _ hp))
  · rw [hT', hT, appT_succ, e1]
  · intro p hp
    rcases List.mem_append.mp hp with hp | hp
    · exact fun q hq => Nat.ne_of_gt (fr p hp q (.tail _ (.tail _ (.tail _ (List.mem_append_right _ hq)))))
    · exact hFr p hp
/- Sb -/
set_option maxHeartbeats 16000000 in
theorem seg_bank (w : World) (next : LawGo w 4 (P4 w)) : LawGo w 2 (P2 w) := by
  refine' law_step next ?ho ?H
  case ho => k_is
  intro nx gd f ccd A0 base mean mg mb un g L h gs dr os tk0 Q vals news lv0 hun B X T F N hP hq
  have v0 := lv0 0 (Str.ofString "script") rfl
  have v1 := lv0 1 (Str.ofString "feed") rfl
  have v2 := lv0 2 (Str.ofString "leaves") rfl
  have v3 := lv0 3 (Str.ofString "t") rfl
  have v4 := lv0 4 (Str.ofString "model") rfl
  have v5 := lv0 5 (Str.ofString "leaf") rfl
  have v6 := lv0 6 (Str.ofString "parts") rfl
  have v7 := lv0 7 (Str.ofString "part") rfl
  have v8 := lv0 8 (Str.ofString "told") rfl
  obtain ⟨sl, fd, ls, ob, okk, o, vs, ns, nc, k, tk, rfl, rfl, hob, hok, hfe, hi, hlen, hk0, hk6, hne, hlo, n1, n2, n3, n4⟩ := hP
  show wpAny _ _ (execs (_ :: _) _) _ _ _
  have ltL : ∀ p ∈ (fd, o) :: (ls, listOf vs.toArray nc) :: (L + 1, ob) :: (L + 2, okk) :: [], True := fun _ _ => trivial
  refine x_asg (h := ?_)
  refine e_gcall0 (hk := gc_TermBank _) (h := ?_)
  refine call_cls (by assumption) X (by assumption) (mi_TermBank _) (in_TermBank _).1 (in_TermBank _).2 fun x dx h' F2 N2 lt1 lt2 => ?_
  have ltd : @LT.lt Nat _ fd dx ∧ @LT.lt Nat _ ls dx ∧ @LT.lt Nat _ (L + 1) dx ∧ @LT.lt Nat _ (L + 2) dx := ⟨lt1 _ (.head _), lt1 _ (.tail _ (.head _)), lt1 _ (.tail _ (.tail _ (.head _))), lt1 _ (.tail _ (.tail _ (.tail _ (.head _))))⟩
  obtain ⟨ltd1, ltd2, ltd3, ltd4⟩ := ltd
  show codeAny _ (ktrTop 303 (un + 1) gd _ _ L _ _ _ []) _ _ _
  refine DoesC.use (tb_does w (rest0 := (fd, o) :: (ls, listOf vs.toArray nc) :: (L + 1, ob) :: (L + 2, okk) :: []) (by omega) (by omega) lt2 (AllLt.of lt1)) B X T F2 N2 rfl (Nat.le_refl _) (Nat.le_refl _) ?_
  rintro v h3 tk3 news3 F3 N3 ⟨rfl, a, b, sn, fn, fa, tl, t1, t2, tc, bv, hbk, hbd, rfl, hsw, hfr, hAt, hO, k1, k2, k3, hB, hT, hTl, hFr⟩
  subst hbk hbd
  clear F2 N2 F N
  refine ⟨rfl, ?_⟩
  have c1 := hO.c1
  have c2 := hO.c2
  have hge : ∀ z ∈ a.adr, @LE.le Nat _ a.bd z := by
    intro z hz
    obtain ⟨c1, c2, c3, c4, c5, c6, c7, c8, -, -, -, -, -, -⟩ := hO
    simp only [BA.adr, List.mem_cons, List.not_mem_nil, or_false] at hz
    rcases hz with rfl | rfl | rfl | rfl | rfl | rfl | rfl | rfl | rfl <;> omega
  have hofr : ∀ {y : Addr}, @LT.lt Nat _ a.sw y → @LT.lt Nat _ y a.fr → ∀ z ∈ a.adr, @Ne Nat y z := by
    intro y e1 e2 z hz
    obtain ⟨c1, c2, c3, c4, c5, c6, c7, c8, -, -, -, -, -, -⟩ := hO
    simp only [BA.adr, List.mem_cons, List.not_mem_nil, or_false] at hz
    rcases hz with rfl | rfl | rfl | rfl | rfl | rfl | rfl | rfl | rfl <;> omega
  have hlow : ∀ y, @LT.lt Nat _ y a.bd → ∀ z ∈ fn :: fa :: a.adr, @Ne Nat y z := by
    intro y hy z hz
    rcases List.mem_cons.mp hz with rfl | hz
    · omega
    rcases List.mem_cons.mp hz with rfl | hz
    · omega
    have := hge z hz
    exact Nat.ne_of_lt (Nat.lt_of_lt_of_le hy this)
  have frt : ∀ p ∈ tl, ∀ q ∈ (fd, o) :: (ls, listOf vs.toArray nc) :: (L + 1, ob) :: (L + 2, okk) :: [], @LT.lt Nat _ q.1 p.1 := fun p hp q hq => AllLt.mem (hFr p hp) q hq
  have hW : ∀ p ∈ (fn, listOf ([] : List Value).toArray 0) :: (fa, listOf ([] : List Value).toArray 0) :: (BL a b ++ (tl ++ ((fd, o) :: (ls, listOf vs.toArray nc) :: (L + 2, okk) :: []))), p.1 ≠ L + 1 := by
    intro p hp
    rcases List.mem_cons.mp hp with rfl | hp
    · exact Ne.symm (hlow _ ltd3 _ (.head _))
    rcases List.mem_cons.mp hp with rfl | hp
    · exact Ne.symm (hlow _ ltd3 _ (.tail _ (.head _)))
    rcases List.mem_append.mp hp with hp | hp
    · exact Ne.symm (hlow _ ltd3 _ (.tail _ (.tail _ (BL_adr p hp))))
    rcases List.mem_append.mp hp with hp | hp
    · exact Nat.ne_of_gt (frt p hp _ (.tail _ (.tail _ (.head _))))
    · simp only [List.mem_cons, List.not_mem_nil, or_false] at hp
      rcases hp with rfl | rfl | rfl
      · exact n1
      · exact n3
      · show @Ne Nat _ _; omega
  refine s_cell (v₀ := none) F3 (N3.perm (news' := (L + 1, ob) :: (fn, listOf ([] : List Value).toArray 0) :: (fa, listOf ([] : List Value).toArray 0) :: (BL a b ++ (tl ++ ((fd, o) :: (ls, listOf vs.toArray nc) :: (L + 2, okk) :: [])))) (by
    intro p hp
    simp only [List.mem_cons, List.mem_append, List.not_mem_nil, or_false] at hp ⊢
    rcases hp with h | h | h | h | h | h | h | h
    · exact .inr (.inr (.inr (.inr (.inr (.inr (.inl h))))))
    · exact .inl h
    · exact .inr (.inl h)
    · exact .inr (.inr (.inl h))
    · exact .inr (.inr (.inr (.inl h)))
    · exact .inr (.inr (.inr (.inr (.inl h))))
    · exact .inr (.inr (.inr (.inr (.inr (.inl h)))))
    · exact .inr (.inr (.inr (.inr (.inr (.inr (.inr h)))))))) (by kernel_rfl!) rfl (UpdF.head hW) hob fun h4 ob2 F4 N4 hob2 => ?_
  (try dsimp only at N4)
  clear F3 N3 hW
  refine x_lcL F4 v2 rfl (by with_unfolding_all rfl) (by with_unfolding_all rfl) (by decide) rfl (by decide) rfl (fun _ => by with_unfolding_all rfl) ?_
  refine e_tup (h := ?_)
  refine wa_cons (h := ?_)
  refine e_str (h := ?_)
  refine wa_cons (h := ?_)
  refine e_str (h := ?_)
  refine wa_cons (h := ?_)
  refine e_str (h := ?_)
  refine wa_nil (h := ?_)
  refine n_tup (h := ?_); walk_at "p1"
  rename Fr g L _ _ => F5
  rename News g L _ _ => N5
  rename _ ∧ _ => lT
  rename_i Tp hT5
  obtain ⟨lT1, lT2, lT3, lT4⟩ := lT
  obtain ⟨wsv, hall, hwl, N6⟩ : ∃ wsv, allS wsv = true ∧ wsv.length = 3 ∧ News g L hT5 ((Tp, tup wsv 0) :: (L + 1, ob2) :: (fn, listOf ([] : List Value).toArray 0) :: (fa, listOf ([] : List Value).toArray 0) :: (BL a b ++ (tl ++ ((fd, o) :: (ls, listOf vs.toArray nc) :: (L + 2, okk) :: [])))) := ⟨_, rfl, rfl, N5⟩
  clear N5
  have mT : ∀ q ∈ (fd, o) :: (ls, listOf vs.toArray nc) :: (L + 2, okk) :: [], @LT.lt Nat _ q.1 Tp := fun q hq => AllLt.mem lT4 q (List.mem_append_right _ (List.mem_append_right _ hq))
  have hTa : ∀ z ∈ a.adr, @LT.lt Nat _ z Tp := adr_lt lT4
  obtain ⟨R0, hR0⟩ : ∃ R0 : Led, R0 = (Tp, tup wsv 0) :: (L + 1, ob2) :: (fd, o) :: (ls, listOf vs.toArray nc) :: (L + 2, okk) :: [] := ⟨_, rfl⟩
  have offR : OwnOff R0 (fn :: fa :: a.adr) := by
    subst hR0
    intro p hp
    simp only [List.mem_cons, List.not_mem_nil, or_false] at hp
    rcases hp with rfl | rfl | rfl | rfl | rfl
    · intro z hz
      rcases List.mem_cons.mp hz with rfl | hz
      · exact Nat.ne_of_gt lT2
      rcases List.mem_cons.mp hz with rfl | hz
      · exact Nat.ne_of_gt lT3
      exact Nat.ne_of_gt (hTa z hz)
    · exact hlow _ ltd3
    · exact hlow _ ltd1
    · exact hlow _ ltd2
    · exact hlow _ ltd4
  have ea : a.fro (listOf ([] : List Value).toArray 0) = a := by rw [← hfr]; rfl
  have hBR : Bank w (tl ++ R0) b := by
    refine hB.mono2 fun p hp ht => ?_
    rcases List.mem_append.mp hp with hp | hp
    · exact List.mem_append_left _ hp
    · refine List.mem_append_right _ ?_
      subst hR0
      simp only [List.mem_cons, List.not_mem_nil, or_false] at hp ⊢
      rcases hp with rfl | rfl | rfl | rfl
      · exact .inr (.inr (.inl rfl))
      · exact .inr (.inr (.inr (.inl rfl)))
      · obtain ⟨vs', n', e⟩ := ht
        dsimp only at e
        rw [e] at hob
        exact nomatch hob
      · exact .inr (.inr (.inr (.inr rfl)))
  have mR : ∀ p ∈ tl ++ R0, p ∈ (Tp, tup wsv 0) :: (L + 1, ob2) :: (fn, listOf ([] : List Value).toArray 0) :: (fa, listOf ([] : List Value).toArray 0) :: (BL a b ++ (tl ++ ((fd, o) :: (ls, listOf vs.toArray nc) :: (L + 2, okk) :: []))) := by
    subst hR0
    intro p hp
    simp only [List.mem_cons, List.mem_append, List.not_mem_nil, or_false] at hp ⊢
    rcases hp with h | h | h | h | h | h
    · exact .inr (.inr (.inr (.inr (.inr (.inl h)))))
    · exact .inl h
    · exact .inr (.inl h)
    · exact .inr (.inr (.inr (.inr (.inr (.inr (.inl h))))))
    · exact .inr (.inr (.inr (.inr (.inr (.inr (.inr (.inl h)))))))
    · exact .inr (.inr (.inr (.inr (.inr (.inr (.inr (.inr h)))))))
  have hAp : Apart tl R0 := by
    subst hR0
    intro p hp q hq
    simp only [List.mem_cons, List.not_mem_nil, or_false] at hq
    have h := frt p hp
    rcases hq with rfl | rfl | rfl | rfl | rfl
    · exact Nat.ne_of_lt (AllLt.mem lT4 p (List.mem_append_right _ (List.mem_append_left _ hp)))
    · exact Nat.ne_of_gt (h (L + 1, ob) (.tail _ (.tail _ (.head _))))
    · exact Nat.ne_of_gt (h (fd, o) (.head _))
    · exact Nat.ne_of_gt (h (ls, listOf vs.toArray nc) (.tail _ (.head _)))
    · exact Nat.ne_of_gt (h (L + 2, okk) (.tail _ (.tail _ (.tail _ (.head _)))))
  have mem1 : (Tp, tup wsv 0) ∈ R0 := by subst hR0; exact .head _
  have mem2 : (L + 1, ob2) ∈ R0 := by subst hR0; exact .tail _ (.head _)
  have hst : LvSt w a fn fa R0 0 [] ((fn, listOf ([] : List Value).toArray 0) :: (fa, listOf ([] : List Value).toArray 0) :: (BL a b ++ (tl ++ R0))) := ⟨b, tl, [], [], [], 0, 0, 0, by rw [ea], rfl, rfl, rfl, (fun v hv => nomatch hv), .nil, hBR, hT, hTl, hAp⟩
  have inNx : ∀ {kk ys nx}, LvSt w a fn fa R0 kk ys nx → (∀ p ∈ R0, p ∈ nx) ∧ (a.bk, instObj 782 a.bd) ∈ nx ∧ (a.bd, dictOf a.es a.nE) ∈ nx := by
    rintro kk ys nx ⟨b3, tl3, fnv, fav, frv, m1, m2, m3, rfl, -⟩
    exact ⟨fun p hp => .tail _ (.tail _ (List.mem_append_right _ (List.mem_append_right _ hp))), .tail _ (.tail _ (.head _)), .tail _ (.tail _ (.tail _ (.head _)))⟩
  refine ⟨Tp, _, wsv, 0, (fn, listOf ([] : List Value).toArray 0) :: (fa, listOf ([] : List Value).toArray 0) :: (BL a b ++ (tl ++ R0)), _, _, fun kk ys nx => LvSt w a fn fa R0 kk ys nx, rfl, rfl, rfl, F5, N6.perm ?_, ?_, Or.inr rfl, by omega, hst, fun kk ys nx h => (inNx h).1 _ mem1, ?elt, ?fin⟩
  · intro p hp
    simp only [List.mem_cons, List.mem_append] at hp
    rcases hp with h | h | h | h
    · rw [h]; exact .tail _ (.tail _ (.head _))
    · rw [h]; exact .tail _ (.tail _ (.tail _ (.head _)))
    · exact .tail _ (.tail _ (.tail _ (.tail _ (List.mem_append_left _ h))))
    · exact mR p (List.mem_append.mpr h)
  · exact (inNx hst).1 _ mem1
  case elt =>
    clear hq mR nx F5 N6
    (try clear F4)
    (try clear N4)
    intro kk v ys nx I oI C oC D m2 h1 tk1 E' hkk hP hS hns hm2 F7 N7 off7 ne7
    obtain ⟨nm, tn, rfl⟩ := allS_get hall hP
    obtain ⟨iR, ibk, ibd⟩ := inNx hS
    have iob := iR _ mem2
    have gfc : getL (Str.ofString "fresh_const") a.es = some none := hAt.get (by kernel_rfl!)
    refine cv_mcall (hk' := mk_fresh_const _) (h := ?_)
    refine wa_cons (h := ?_)
    refine cv_local (hC := by (exact List.Mem.tail _ (List.Mem.head _))) (h := ?_)
    refine wa_cons (h := ?_)
    refine cv_globI (e := (gk_BOOL _)) (h := ?_); intro _
    refine wa_nil (h := ?_)
    refine ⟨In.of (by with_reducible assumption) (by with_reducible assumption), ?_⟩
    exact leaf_step B X T (by assumption) (by assumption) rfl (by omega) (by omega) hS off7 (by omega) hO (hAt.get (by kernel_rfl!)) (hAt.get (by kernel_rfl!)) (hAt.get (by kernel_rfl!)) (hAt.get (by kernel_rfl!)) (hAt.get (by kernel_rfl!)) k1 k2 k3 offR
  case fin =>
    clear mR F5 N6
    (try clear F4)
    (try clear N4)
    rw [hwl]
    rintro lv ys nx6 h6 tk6 ⟨b3, tl3, fnv, fav, frv, m1, m2, m3, rfl, e1, e2, e3, hz, hys, hB3, hT3, hTl3, hAp3⟩ F6 N6 o1 h7 F7 N7
    clear F6 N6
    dsimp only [List.set_cons_succ, List.set_cons_zero] at F7
    have o1' := off1_mem o1
    obtain ⟨y0, y1, y2, rfl⟩ : ∃ y0 y1 y2, ys = [Value.int 3 y0, .int 4 y1, .int 5 y2] := by
      have hys' : IntsAre ys [3, 4, 5] := hys
      cases hys' with
      | cons _ y0 h => cases h with
        | cons _ y1 h => cases h with
          | cons _ y2 h => cases h; exact ⟨y0, y1, y2, rfl⟩
    obtain ⟨u0, u1, u2, rfl⟩ : ∃ u0 u1 u2, frv = [Value.int 0 u0, .int 0 u1, .int 0 u2] := by
      match frv, e3, hz with
      | [v0, v1, v2], _, hz =>
        obtain ⟨u0, rfl⟩ := hz v0 (.head _)
        obtain ⟨u1, rfl⟩ := hz v1 (.tail _ (.head _))
        obtain ⟨u2, rfl⟩ := hz v2 (.tail _ (.tail _ (.head _)))
        exact ⟨u0, u1, u2, rfl⟩
    obtain ⟨a3, ha3⟩ : ∃ a3 : BA, a3 = a.fro (listOf [Value.int 0 u0, .int 0 u1, .int 0 u2].toArray m3) := ⟨_, rfl⟩
    rw [← ha3] at N7 o1'
    have hO3 : a3.Ok := by
      subst ha3
      exact ok_of_ats (a := a.fro (listOf [Value.int 0 u0, .int 0 u1, .int 0 u2].toArray m3)) ⟨hO.c1, hO.c2, hO.c3, hO.c4, hO.c5, hO.c6, hO.c7, hO.c8, hO.lo, hO.g3, hO.g4, hO.g5, hO.g6, hO.g7⟩ hAt
    have eadr : a3.adr = a.adr := by subst ha3; rfl
    have ebk : a3.bk = a.bk := by subst ha3; rfl
    have ebd : a3.bd = a.bd := by subst ha3; rfl
    have adrN : ∀ z ∈ a.adr, @Ne Nat z lv := by
      intro z hz
      rw [← eadr] at hz
      obtain ⟨o', ho'⟩ := BL_obj a3 b3 z hz
      exact o1' _ (.tail _ (.tail _ (List.mem_append_left _ ho')))
    have inR0 : ∀ p ∈ R0, @Ne Nat p.1 lv := fun p hp => o1' _ (.tail _ (.tail _ (List.mem_append_right _ (List.mem_append_right _ hp))))
    have mem3 : (fd, o) ∈ R0 := by subst hR0; exact .tail _ (.tail _ (.head _))
    have mem4 : (ls, listOf vs.toArray nc) ∈ R0 := by subst hR0; exact .tail _ (.tail _ (.tail _ (.head _)))
    have mem5 : (L + 2, okk) ∈ R0 := by subst hR0; exact .tail _ (.tail _ (.tail _ (.tail _ (.head _))))
    obtain ⟨R, hR⟩ : ∃ R : Led, R = (lv, LCg.lst [Value.int 3 y0, .int 4 y1, .int 5 y2]) :: (fn, listOf fnv.toArray m1) :: (fa, listOf fav.toArray m2) :: (tl3 ++ [(Tp, tup wsv 0), (L + 1, ob2)]) := ⟨_, rfl⟩
    have adr2 : ∀ {x : Addr}, @Ne Nat x fd → @Ne Nat x ls → (∀ z ∈ a.adr, @Ne Nat x z) → ∀ z ∈ fd :: ls :: a3.adr, @Ne Nat x z := by
      intro x e1 e2 e3 z hz
      rcases List.mem_cons.mp hz with rfl | hz
      · exact e1
      rcases List.mem_cons.mp hz with rfl | hz
      · exact e2
      rw [eadr] at hz
      exact e3 z hz
    have hoff : OwnOff ((L + 2, okk) :: R) (fd :: ls :: a3.adr) := by
      subst hR
      refine offs (offs (offs (offs (OwnOff.app ?_ ?_) ?_) ?_) ?_) ?_
      · intro p hp
        exact adr2 (hAp3 p hp _ mem3) (hAp3 p hp _ mem4) (fun z hz => hTl3 p hp z (.tail _ (.tail _ hz)))
      · intro p hp
        simp only [List.mem_cons, List.not_mem_nil, or_false] at hp
        rcases hp with rfl | rfl
        · exact adr2 (Nat.ne_of_gt (mT (fd, o) (.head _))) (Nat.ne_of_gt (mT (ls, listOf vs.toArray nc) (.tail _ (.head _)))) (fun z hz => Nat.ne_of_gt (hTa z hz))
        · exact adr2 (Ne.symm n1) (Ne.symm n3) (fun z hz => hlow _ ltd3 z (.tail _ (.tail _ hz)))
      · exact adr2 (Ne.symm (hlow _ ltd1 _ (.tail _ (.head _)))) (Ne.symm (hlow _ ltd2 _ (.tail _ (.head _)))) (hofr (by omega) k3)
      · exact adr2 (Ne.symm (hlow _ ltd1 _ (.head _))) (Ne.symm (hlow _ ltd2 _ (.head _))) (hofr k1 (by omega))
      · exact adr2 (Ne.symm (inR0 _ mem3)) (Ne.symm (inR0 _ mem4)) (fun z hz => Ne.symm (adrN z hz))
      · exact adr2 (Ne.symm n2) (Ne.symm n4) (fun z hz => hlow _ ltd4 z (.tail _ (.tail _ hz)))
    have hoff2 : OwnOff R [L + 2] := by
      subst hR
      have k5 : ∀ {x : Addr}, @Ne Nat x (L + 2) → ∀ z ∈ [L + 2], @Ne Nat x z := by intro x h z hz; rw [List.mem_singleton.mp hz]; exact h
      refine offs (offs (offs (OwnOff.app ?_ ?_) ?_) ?_) ?_
      · intro p hp; exact k5 (hAp3 p hp _ mem5)
      · intro p hp
        simp only [List.mem_cons, List.not_mem_nil, or_false] at hp
        rcases hp with rfl | rfl
        · exact k5 (Nat.ne_of_gt (mT (L + 2, okk) (.tail _ (.tail _ (.head _)))))
        · exact k5 (by show @Ne Nat _ _; omega)
      · exact k5 (Ne.symm (hlow _ ltd4 _ (.tail _ (.head _))))
      · exact k5 (Ne.symm (hlow _ ltd4 _ (.head _)))
      · exact k5 (Ne.symm (inR0 _ mem5))
    have hBf : Bank w ((L + 2, okk) :: R) b3 := by
      refine hB3.mono2 fun p hp ht => ?_
      subst hR hR0
      obtain ⟨vs', n', ht⟩ := ht
      simp only [List.mem_append, List.mem_cons, List.not_mem_nil, or_false] at hp ⊢
      rcases hp with h | h | h | h | h | h
      · exact .inr (.inr (.inr (.inr (.inl h))))
      · exact .inr (.inr (.inr (.inr (.inr (.inl h)))))
      · exact .inr (.inr (.inr (.inr (.inr (.inr h)))))
      · rw [h] at ht
        obtain ⟨es', ep', hc', -⟩ := hfe
        dsimp only at ht
        rw [ht] at hc'
        exact absurd hc'.1 (by intro e; injection e with e; exact absurd e (by decide))
      · rw [h] at ht
        injection ht with e _ _
        injection e with e
        exact absurd e (by decide)
      · exact .inl h
    have hwf : Wf b3.T := by rw [hT3]; exact appT_wf
    refine nx gd f ccd A0 base mean mg mb un g L h7 gs dr os _ Q _ _ lv0 hun B X T F7 (N7.perm ?_) ⟨a3, b3, R, sl, fd, ls, lv, ob2, okk, o, vs, nc, 3, k, y0, y1, y2, none, rfl, rfl, ⟨⟨tk, hfe⟩, ⟨ns, hi, hlen⟩, hk0, hO3, hBf, hwf, hoff, hne, by rw [ebd]; exact ltd1, by rw [ebd]; exact ltd2, hlo⟩, rfl, hok, ?_, by rw [ebk]; exact hob2, ?_, hoff2, by rw [hT3]; rfl, hk6, ?_, ?_⟩ hq
    · subst hR hR0
      intro p hp
      simp only [FLed, List.mem_cons, List.mem_append, List.not_mem_nil, or_false] at hp ⊢
      rcases hp with (h | h) | h | h | h | h | h | h | h | h
      · exact .inr (.inr (.inr (.inr (.inr (.inr (.inr (.inl h)))))))
      · exact .inr (.inr (.inr (.inr (.inr (.inr (.inr (.inr (.inl h))))))))
      · exact .inr (.inr (.inr (.inl h)))
      · exact .inr (.inr (.inr (.inr (.inr (.inr (.inr (.inr (.inr h))))))))
      · exact .inl h
      · exact .inr (.inl h)
      · exact .inr (.inr (.inl h))
      · exact .inr (.inr (.inr (.inr (.inl h))))
      · exact .inr (.inr (.inr (.inr (.inr (.inl h)))))
      · exact .inr (.inr (.inr (.inr (.inr (.inr (.inl h))))))
    · subst hR; exact .tail _ (.tail _ (.tail _ (List.mem_append_right _ (.tail _ (.head _)))))
    · subst hR; exact .head _
    · subst ha3; exact hsw
    · subst ha3; exact ⟨u0, u1, u2, m3, rfl⟩
/- Mi -/
set_option maxHeartbeats 8000000 in
theorem minit_does (w : World) {D U : Nat} (hD : D < 480) (hU : U < 900) {x dx bk : Addr} {rest0 : Led} (hx : @LT.lt Nat _ dx x) (hl0 : AllLt dx rest0) :
  DoesC w 806 [.ref x, .ref bk] D U ((x, instObj 865 dx) :: (dx, dictOf [] 0) :: rest0) (fun v news' => v = .none ∧ ∃ (es : List DictEntry) (n : Nat) (tb ot : Addr) (oT oO : Obj), news' = (ot, oO) :: (tb, oT) :: (x, instObj 865 dx) :: (dx, dictOf es n) :: rest0 ∧
    Ats es [(Str.ofString "others", .ref ot), (Str.ofString "tables", .ref tb), (Str.ofString "bank", .ref bk)] ∧ oT.IsDictOf (PySem.intKind PRG w) [] ∧ oO.IsDictOf (PySem.intKind PRG w) [] ∧ (tb == sysModules) = false ∧ (ot == sysModules) = false ∧ @LT.lt Nat _ x tb ∧ @LT.lt Nat _ tb ot) := by
  refine' doesC_intro (names := [Str.ofString "self", Str.ofString "bank"]) (k := 0) (vals := [some (.ref x), some (.ref bk)]) ?hvals ?ho ?hcd ?hD ?hbind ?hall ?hnd ?hco ?hgen ?hk ?hcell ?body
  tb_start
  intro K A0 base mean mg mb g L h gs dr os tk0 Q lv B X T F N lt hdp hun hq
  have hd1 := Nat.lt_of_le_of_lt hdp (Nat.add_lt_add_right hD 1)
  have hu1 := Nat.lt_of_le_of_lt hun (Nat.add_lt_add_right hU 3)
  show wpAny _ _ (execs (_ :: _) _) _ _ _
  have v0 := lv 0 (Str.ofString "self") rfl
  have v1 := lv 1 (Str.ofString "bank") rfl
  clear lv
  have off0 : OwnOff rest0 [dx] := fun p hp b hb => by rw [List.mem_singleton.mp hb]; exact Nat.ne_of_lt (AllLt.mem hl0 p hp)
  have hA0 : Ats ([] : List DictEntry) [] := Ats.nil
  have hz0 : ([] : List DictEntry).length ≤ 0 := Nat.le_refl _
  refine x_asga (h := ?_)
  refine e_var (h := ?_)
  refine e_var (h := ?_)
  refine s_attr (hk := sm_bank _) (h := ?_); walk_at "p2"
  refine x_asga (h := ?_)
  refine n_dict (h := ?_); walk_at "p3"
  refine e_var (h := ?_)
  refine s_attr (hk := sm_tables _) (h := ?_); walk_at "p2"
  refine x_asga (h := ?_)
  refine n_dict (h := ?_); walk_at "p3"
  refine e_var (h := ?_)
  refine s_attr (hk := sm_others _) (h := ?_); walk_at "p2"
  refine x_nil (h := ?_)
  rename Fr g L _ _ => F2
  rename News g L _ _ => N2
  exact hq _ _ (back F2 N2 rfl ⟨rfl, _, _, _, _, _, _, rfl, by assumption, by assumption, by assumption, by assumption, by assumption, by omega, by omega⟩)
/- dicts' setdefault -/
set_option maxHeartbeats 8000000 in
theorem setrow_does (w : World) {D U : Nat} (hD : D < 480) (hU : U < 900) {md mdd tb c : Addr} {mes : List DictEntry} {mn : Nat} {oT : Obj} {kvs : List (Int × Value)} {f : Int} {tf : Tok} {β : Bool} {rest : Led}
  (hi1 : (md, instObj 865 mdd) ∈ rest) (hd1 : (mdd, dictOf mes mn) ∈ rest) (gt : getL (Str.ofString "tables") mes = some (some (.ref tb))) (hT : oT.IsDictOf (PySem.intKind PRG w) kvs) (lT : (tb == sysModules) = false) (hz : kvs.length ≤ 100) (hn : valueAt kvs f = none) (hc : (c, tup [] 0) ∈ rest) (off : OwnOff rest [tb]) :
  Does w 813 [.ref md, .int f tf, .ref c, .bool β] D U ((tb, oT) :: rest) (fun v news' => v = .none ∧ ∃ nt o' oT', news' = (nt, o') :: (tb, oT') :: rest ∧ oT'.IsDictOf (PySem.intKind PRG w) (kvs ++ [(f, .ref nt)]) ∧ TT w rest o' [([], c, .bool β)] ∧ AllLt nt ((tb, oT) :: rest) ∧ (nt == sysModules) = false) := by
  refine' does_intro' (names := [Str.ofString "self", Str.ofString "f", Str.ofString "args", Str.ofString "value", Str.ofString "table"]) (k := 1) (vals := [some (.ref md), some (.int f tf), some (.ref c), some (.bool β), none]) ?hvals ?ho ?hcd ?hD ?hbind ?hall ?hnd ?hco ?hgen ?hk ?hcell ?body
  tb_start
  intro K A0 base mean mg mb g L h gs dr os tk0 Q lv B X T F N lt hdp hun hq
  have hd1 := Nat.lt_of_le_of_lt hdp (Nat.add_lt_add_right hD 1)
  have hu1 := Nat.lt_of_le_of_lt hun (Nat.add_lt_add_right hU 3)
  show wpAny _ _ (execs (_ :: _) _) _ _ _
  have v0 := lv 0 (Str.ofString "self") rfl
  have v1 := lv 1 (Str.ofString "f") rfl
  have v2 := lv 2 (Str.ofString "args") rfl
  have v3 := lv 3 (Str.ofString "value") rfl
  have v4 := lv 4 (Str.ofString "table") rfl
  clear lv
  refine x_asg (h := ?_)
  (refine' e_ameth ?Fz59 ?Nz59 ?Xz59 ?lz59 ?vz59 ?oz59 ?dz59 ?az59 ?kz59 ?nz59 ?ez59 ?zz59 ?pz59 (fun pl R h => gm_dict PySem.F.slot_dict_setdefault PySem.F.type_dict_setdefault ?N2z59 ?mz59 ?hdz59 h) ?_; (case Fz59 => with_reducible assumption); (case Nz59 => with_reducible assumption); (case Xz59 => with_reducible assumption); (case lz59 => with_reducible assumption); (case vz59 => exact rfl); (case oz59 => k_mem); (case dz59 => k_mem); (case az59 => with_reducible assumption); (case kz59 => exact am_tables _); (case nz59 => exact rfl); (case ez59 => exact rfl); (case zz59 => exact rfl); (case pz59 => exact rfl); (case N2z59 => with_reducible assumption); (case mz59 => k_mem); (case hdz59 => with_reducible assumption))
  refine wa_v (h := ?_)
  refine wa_cons (h := ?_)
  refine n_dict (h := ?_); walk_at "p3"
  refine wa_nil (h := ?_)
  refine c_sdI (h := ?_); walk_at "p7"
  refine s_var (h := ?_); walk_at "p9"
  refine x_if (h := ?_)
  refine t_cmp (h := ?_)
  rename Fr g L _ _ => F2
  rename News g L _ _ => N2
  rename_i nt h1 oN l1 lo1 hd1' h2 oT2 hd2 h3
  obtain ⟨l11, l12⟩ := l1
  have hTT : TT w rest oN [] := TT.ofEmpty hd1'
  have hbb : (β != β) = false := bne_self_eq_false β
  (refine' e_nmeth ?Fz60 ?lz60 ?vz60 ?nz60 ?ez60 ?zz60 ?pz60 (fun pl R h => gm_dictT PySem.F.slot_dict_setdefault PySem.F.type_dict_setdefault ?N2z60 ?mz60 ?hdz60 h) ?_; (case Fz60 => with_reducible assumption); (case lz60 => with_reducible assumption); (case vz60 => exact rfl); (case nz60 => exact rfl); (case ez60 => exact rfl); (case zz60 => exact rfl); (case pz60 => exact rfl); (case N2z60 => with_reducible assumption); (case mz60 => k_mem); (case hdz60 => with_reducible assumption))
  refine wa_v (h := ?_)
  refine wa_v1 (h := ?_)
  refine c_sdT (led := rest) (by assumption) (by assumption) (UpdF.head (fun p hp => ?_)) hTT ⟨[], 0, hc, .nil⟩ (fun p hp => .tail _ (.tail _ hp)) lo1 (by show K.un + 1 < cLine; unfold cLine; omega) fun h5 o5 F5 N5 hT5 => ?_
  · rcases List.mem_cons.mp hp with rfl | hp
    · exact Nat.ne_of_lt l11
    · exact Nat.ne_of_lt (AllLt.mem l12 p hp)
  (try dsimp only at N5)
  clear F2 N2
  refine e_var (h := ?_)
  refine ne_bool ?_
  refine truthy_b (h := ?_)
  refine if_f (hc := (by kst_p2)) (h := ?_)
  refine x_nil (h := ?_)
  exact hq _ _ (back (by assumption) (by assumption) rfl ⟨rfl, nt, o5, oT2, rfl, hd2, hT5, ⟨l11, l12⟩, lo1⟩)
/- Sc -/
set_option maxHeartbeats 16000000 in
theorem seg_form (w : World) (next : LawGo w 6 (P6 w)) : LawGo w 4 (P4 w) := by
  refine' law_step next ?ho ?H
  case ho => k_is
  intro nx gd f ccd A0 base mean mg mb un g L h gs dr os tk0 Q vals news lv0 hun B X T F N hP hq
  have v0 := lv0 0 (Str.ofString "script") rfl
  have v1 := lv0 1 (Str.ofString "feed") rfl
  have v2 := lv0 2 (Str.ofString "leaves") rfl
  have v3 := lv0 3 (Str.ofString "t") rfl
  have v4 := lv0 4 (Str.ofString "model") rfl
  have v5 := lv0 5 (Str.ofString "leaf") rfl
  have v6 := lv0 6 (Str.ofString "parts") rfl
  have v7 := lv0 7 (Str.ofString "part") rfl
  have v8 := lv0 8 (Str.ofString "told") rfl
  obtain ⟨a, b, R, sl, fd, ls, lv, ob, okk, o, vs, nc, nl, k, t0, t1, t2, -, rfl, -, S, rfl, hok, hob1, hob2, hlv, off2, hT6, hk6, hsw, hfr⟩ := hP
  show wpAny _ _ (execs (_ :: _) _) _ _ _
  have mob : (L + 1, ob) ∈ FLed fd ls o vs nc ++ (BL a b ++ ((L + 2, okk) :: R)) := List.mem_append_right _ (List.mem_append_right _ (.tail _ hob1))
  refine x_asgTn (h := ?_)
  refine e_tup (h := ?_)
  refine wa_cons (h := ?_)
  refine e_gcall (hk := fk_law_formula _) (h := ?_)
  refine wa_v (h := ?_)
  refine wa_cons (h := ?_)
  refine e_cell (h := ?_)
  refine wa_v (h := ?_)
  refine wa_cons (h := ?_)
  refine e_int (h := ?_)
  refine wa_nil (h := ?_)
  refine ⟨In.of (by with_reducible assumption) (by with_reducible assumption), ?_⟩
  refine form_call (l0 := 3) (l1 := 4) (l2 := 5) (nl := nl) (t0 := t0) (t1 := t1) (t2 := t2) (form_ok w) B X T F S N rfl (by omega) (by omega) (by decide) rfl (.tail _ hlv) (by decide) (by decide) (by decide) (by show k + 44 < 1000; omega) (by show b.T.length + 7 ≤ 900; omega) ?_
  intro n tn o2 k2 b2 tl h2 tk2 F2 S2 N2 e1 e2 e3 e4 hn hfr2
  clear F N
  have mob2 : (L + 1, ob) ∈ FLed fd ls o2 vs nc ++ (BL a b2 ++ (tl ++ ((L + 2, okk) :: R))) := List.mem_append_right _ (List.mem_append_right _ (List.mem_append_right _ (.tail _ hob1)))
  refine wa_cons (h := ?_)
  refine e_gcall (hk := gc_Model _) (h := ?_)
  refine wa_cons (h := ?_)
  refine e_cell (h := ?_)
  refine wa_nil (h := ?_)
  refine ⟨In.of (by with_reducible assumption) (by with_reducible assumption), ?_⟩
  refine call_cls (by assumption) X (by assumption) (mi_Model _) (in_Model _).1 (in_Model _).2 fun md mdd h3 F3 N3 lt1 lt2 => ?_
  clear F2 N2
  show codeAny _ (ktrTop 303 (un + 1) gd _ _ L _ _ _ []) _ _ _
  refine DoesC.use (minit_does w (rest0 := FLed fd ls o2 vs nc ++ (BL a b2 ++ (tl ++ ((L + 2, okk) :: R)))) (by omega) (by omega) lt2 (AllLt.of lt1)) B X T F3 N3 rfl (Nat.le_refl _) (Nat.le_refl _) ?_
  rintro v h4 tk4 news4 F4 N4 ⟨rfl, mes, mn, tb, ot, oT, oO, rfl, hAt, hdT, hdO, loT, loO, l1, l2⟩
  refine ⟨rfl, ?_⟩
  clear F3 N3
  refine wa_cons (h := ?_)
  refine n_dict (h := ?_); walk_at "p3"
  refine wa_nil (h := ?_)
  refine n_tup (h := ?_); walk_at "p1"
  refine as_tup (h := ?_); intro _ _ _; k_sweep; (dsimp only [assignEach, List.map])
  refine a_more (h := ?_)
  refine as_name (h := ?_)
  refine s_var (h := ?_); walk_at "p9"
  refine a_more (h := ?_)
  refine as_name (h := ?_)
  refine s_var (h := ?_); walk_at "p9"
  refine a_more (h := ?_)
  refine as_name (h := ?_)
  rename Fr g L _ _ => F5
  rename News g L _ _ => N5
  rename_i kd h5 oK lk lok hdK Du h6 lu h7 h8 h9
  clear lu
  obtain ⟨lk1, lk2, lk3, lk4, lk5⟩ := lk
  have lkm := AllLt.mem lk5
  have lt3 : @LT.lt Nat _ mdd md := lt2
  have hl2 : ∀ p ∈ FLed fd ls o2 vs nc ++ (BL a b2 ++ (tl ++ ((L + 2, okk) :: R))), @LT.lt Nat _ p.1 mdd := lt1
  have m2 : (L + 2, okk) ∈ FLed fd ls o2 vs nc ++ (BL a b2 ++ (tl ++ ((L + 2, okk) :: R))) := List.mem_append_right _ (List.mem_append_right _ (List.mem_append_right _ (.head _)))
  have l2m : @LT.lt Nat _ (L + 2) mdd := hl2 _ m2
  have offS := S2.off
  have offS2 : ∀ z ∈ fd :: ls :: a.adr, @Ne Nat (L + 2) z := fun z hz => offS (L + 2, okk) (List.mem_append_right _ (.head _)) z hz
  obtain ⟨Z, hZ⟩ : ∃ Z : Led, Z = (ot, oO) :: (md, instObj 865 mdd) :: (mdd, dictOf mes mn) :: (BL a b2 ++ (tl ++ R)) := ⟨_, rfl⟩
  have offZ2 : OwnOff Z [L + 2] := by
    subst hZ
    have k5 : ∀ {x : Addr}, @Ne Nat x (L + 2) → ∀ z ∈ [L + 2], @Ne Nat x z := by intro x h z hz; rw [List.mem_singleton.mp hz]; exact h
    refine offs (offs (offs (OwnOff.app ?_ (OwnOff.app ?_ off2)) (k5 ?_)) (k5 ?_)) (k5 ?_)
    · intro p hp; exact k5 (Ne.symm (offS2 _ (.tail _ (.tail _ (BL_adr p hp)))))
    · intro p hp; exact k5 (Nat.ne_of_gt (AllLt.mem (hfr2 p hp) (L + 2, okk) (List.mem_append_right _ (List.mem_append_right _ (.head _)))))
    · show @Ne Nat _ _; omega
    · show @Ne Nat _ _; omega
    · show @Ne Nat _ _; omega
  have hfdm : @LT.lt Nat _ fd mdd := hl2 (fd, o2) (.head _)
  have hlsm : @LT.lt Nat _ ls mdd := hl2 (ls, listOf vs.toArray nc) (.tail _ (.head _))
  have offZ : OwnOff Z [kd, tb, fd, ls] := by
    subst hZ
    have k6 : ∀ {x : Addr}, @Ne Nat x kd → @Ne Nat x tb → @Ne Nat x fd → @Ne Nat x ls → ∀ z ∈ [kd, tb, fd, ls], @Ne Nat x z := by
      intro x h1 h2 h3 h4 z hz
      simp only [List.mem_cons, List.not_mem_nil, or_false] at hz
      rcases hz with rfl | rfl | rfl | rfl
      · exact h1
      · exact h2
      · exact h3
      · exact h4
    have k7 : ∀ p ∈ FLed fd ls o2 vs nc ++ (BL a b2 ++ (tl ++ ((L + 2, okk) :: R))), @Ne Nat p.1 fd → @Ne Nat p.1 ls → ∀ z ∈ [kd, tb, fd, ls], @Ne Nat p.1 z := by
      intro p hp h1 h2
      have h3 := hl2 p hp
      exact k6 (by have := lkm p hp; omega) (by omega) h1 h2
    refine offs (offs (offs (OwnOff.app ?_ (OwnOff.app ?_ ?_)) (k6 ?_ ?_ ?_ ?_)) (k6 ?_ ?_ ?_ ?_)) (k6 ?_ ?_ ?_ ?_)
    · intro p hp
      have h := S2.ok.adr_ge _ (BL_adr p hp)
      exact k7 p (List.mem_append_right _ (List.mem_append_left _ hp)) (Nat.ne_of_gt (Nat.lt_of_lt_of_le S2.f1 h)) (Nat.ne_of_gt (Nat.lt_of_lt_of_le S2.f2 h))
    · intro p hp
      exact k7 p (List.mem_append_right _ (List.mem_append_right _ (List.mem_append_left _ hp))) (offS p (List.mem_append_left _ hp) _ (.head _)) (offS p (List.mem_append_left _ hp) _ (.tail _ (.head _)))
    · intro p hp
      exact k7 p (List.mem_append_right _ (List.mem_append_right _ (List.mem_append_right _ (.tail _ hp)))) (offS p (List.mem_append_right _ (.tail _ hp)) _ (.head _)) (offS p (List.mem_append_right _ (.tail _ hp)) _ (.tail _ (.head _)))
    all_goals (show @Ne Nat _ _; omega)
  have hneF : ∀ p ∈ (kd, oK) :: (tb, oT) :: (FLed fd ls o2 vs nc ++ Z), p.1 ≠ L + 2 := by
    intro p hp
    simp only [FLed, List.cons_append, List.nil_append, List.mem_cons] at hp
    rcases hp with rfl | rfl | rfl | rfl | hp
    · show @Ne Nat _ _; omega
    · show @Ne Nat _ _; omega
    · exact Ne.symm (offS2 _ (.head _))
    · exact Ne.symm (offS2 _ (.tail _ (.head _)))
    · exact offZ2 p hp _ (.head _)
  have hkf : @Ne Nat kd fd ∧ @Ne Nat kd ls ∧ @Ne Nat kd tb ∧ @Ne Nat tb fd ∧ @Ne Nat tb ls ∧ @Ne Nat fd ls := ⟨by omega, by omega, by omega, by omega, by omega, S2.ne⟩
  obtain ⟨hk1, hk2, hk3, hk4, hk5, hk7⟩ := hkf
  refine s_cell (v₀ := none) F5 (N5.perm (news' := (L + 2, okk) :: (kd, oK) :: (tb, oT) :: (FLed fd ls o2 vs nc ++ Z)) ?_) (by kernel_rfl!) rfl (UpdF.head hneF) hok fun h10 ok2 F6 N6 hok2 => ?_
  · subst hZ
    intro p hp
    simp only [FLed, List.cons_append, List.nil_append, List.mem_cons, List.mem_append] at hp ⊢
    rcases hp with h | h | h | h | h | h | h | h | h | h | h
    · exact .inr (.inr (.inr (.inr (.inr (.inr (.inr (.inr (.inr (.inr (.inl h))))))))))
    · exact .inr (.inl h)
    · exact .inr (.inr (.inr (.inl h)))
    · exact .inr (.inr (.inr (.inr (.inr (.inr (.inl h))))))
    · exact .inr (.inr (.inr (.inr (.inr (.inr (.inr (.inl h)))))))
    · exact .inr (.inr (.inl h))
    · exact .inr (.inr (.inr (.inr (.inl h))))
    · exact .inr (.inr (.inr (.inr (.inr (.inl h)))))
    · exact .inr (.inr (.inr (.inr (.inr (.inr (.inr (.inr (.inl h))))))))
    · exact .inr (.inr (.inr (.inr (.inr (.inr (.inr (.inr (.inr (.inl h)))))))))
    · exact .inr (.inr (.inr (.inr (.inr (.inr (.inr (.inr (.inr (.inr (.inr h))))))))))
  (try dsimp only at N6)
  clear N5 F5
  have sub1 : ∀ p ∈ BL a b2 ++ (tl ++ R), p ∈ Z := by subst hZ; intro p hp; exact .tail _ (.tail _ (.tail _ hp))
  have hB2 : Bank w (tl ++ R) b2 := S2.bank.mono2 fun p hp ht => by
    rcases List.mem_append.mp hp with hp | hp
    · exact List.mem_append_left _ hp
    · rcases List.mem_cons.mp hp with rfl | hp
      · obtain ⟨vs', n', e⟩ := ht
        dsimp only at e
        rw [e] at hok
        exact nomatch hok
      · exact List.mem_append_right _ hp
  have mlv : (lv, listOf [Value.int 3 t0, .int 4 t1, .int 5 t2].toArray nl) ∈ Z := sub1 _ (List.mem_append_right _ (List.mem_append_right _ hlv))
  have mob3 : (L + 1, ob) ∈ Z := sub1 _ (List.mem_append_right _ (List.mem_append_right _ hob1))
  have mbk : (a.bk, instObj 782 a.bd) ∈ Z := sub1 _ (.head _)
  have mbd : (a.bd, dictOf a.es a.nE) ∈ Z := sub1 _ (.tail _ (.head _))
  have mmd : (md, instObj 865 mdd) ∈ Z := by subst hZ; exact .tail _ (.head _)
  have mdd' : (mdd, dictOf mes mn) ∈ Z := by subst hZ; exact .tail _ (.tail _ (.head _))
  have mot : (ot, oO) ∈ Z := by subst hZ; exact .head _
  have hA := S2.ok
  have wf := S2.wf
  have hl13 : b2.T.length ≤ 13 := by have : costM 3 = 7 := rfl; omega
  obtain ⟨kt0, hfe0⟩ := S2.fe
  obtain ⟨ns, hi, hlen⟩ := S2.fi
  have hk20 := S2.fk
  have hloF := S2.lo
  have hcost : costC 3 = 44 := rfl
  have hkL : @Ne Nat kd (L + 2) := hneF _ (.head _)
  have htL : @Ne Nat tb (L + 2) := hneF (tb, oT) (.tail _ (.head _))
  have hfL : @Ne Nat fd (L + 2) := Ne.symm (offS2 _ (.head _))
  have hsL : @Ne Nat ls (L + 2) := Ne.symm (offS2 _ (.tail _ (.head _)))
  have q_sr : getL (Str.ofString "set_row") mes = some none := hAt.get (by kernel_rfl!)
  have q_tb : getL (Str.ofString "tables") mes = some (some (.ref tb)) := hAt.get (by kernel_rfl!)
  have q_data : getL (Str.ofString "data") a.es = some none := hA.no "data" (by decide)
  have hkt : ∀ kk : Nat, kk < 3 → b2.T[3 + kk]? = some (Str.ofString "app", [], (kk : Int)) := by
    intro kk h
    obtain rfl | rfl | rfl : kk = 0 ∨ kk = 1 ∨ kk = 2 := by omega
    · exact wf.n3
    · exact wf.n4
    · exact wf.n5
  refine a_none (h := ?_)
  refine x_for (hs := by (intro v; with_unfolding_all rfl)) (h := ?_)
  refine e_var (h := ?_)
  refine p_list rfl (by assumption) (by assumption) (.tail _ (.tail _ (.tail _ (List.mem_append_right _ mlv)))) v5 (fun kk vals' news' => ∃ (u5 : Option Value) (oK oT oF : Obj) (k' : Int) (kt : Tok) (TL : Led) (kvK kvT : List (Int × Value)) (bs : List Bool), vals' = [some (.ref sl), some (.ref fd), some (.ref lv), some (.int n tn), some (.ref md), u5, none, none, none] ∧
    news' = (L + 2, ok2) :: (kd, oK) :: (tb, oT) :: (fd, oF) :: (ls, listOf vs.toArray nc) :: (TL ++ Z) ∧ oF.IsDictOf (PySem.strKind PRG w) [(Str.ofString "cells", .ref ls), (Str.ofString "spot", .int k' kt)] ∧ k' = k2 + (kk : Int) ∧ oK.IsDictOf (PySem.intKind PRG w) kvK ∧ Knw kk kvK bs ∧ oT.IsDictOf (PySem.intKind PRG w) kvT ∧ Tabs w TL kk kvT bs ∧ OwnOff TL [kd, tb, fd, ls, L + 2]) ?start ?hJl ?hJn ?turn ?done
  case start => exact ⟨_, oK, oT, o2, k2, kt0, [], [], [], [], rfl, rfl, hfe0, by simp, hdK, .nil, hdT, .nil, fun p hp => nomatch hp⟩
  case hJl =>
    rintro kk vals' news' ⟨u5, oK, oT, oF, k', kt, TL, kvK, kvT, bs, rfl, rfl, -⟩
    exact .tail _ (.tail _ (.tail _ (.tail _ (.tail _ (List.mem_append_right _ mlv)))))
  case hJn => rintro kk vals' news' ⟨u5, oK, oT, oF, k', kt, TL, kvK, kvT, bs, rfl, rfl, -⟩; rfl
  case turn =>
    clear hq nx hdT hdK hfe0 hneF
    (try clear N6)
    (try clear F6)
    rintro kk v vals1 news1 h1 tk1 I oI hv ⟨u5, oK, oT, oF, k', kt, TL, kvK, kvT, bs, rfl, rfl, hF, rfl, hK, hKn, hT, hTb, offT⟩ hne1 F1 N1 QT hQT
    dsimp only [List.set_cons_succ, List.set_cons_zero] at F1
    obtain ⟨tx, hkk, rfl⟩ : ∃ tx, kk < 3 ∧ v = .int ((3 + kk : Nat) : Int) tx := by
      match kk, hv with
      | 0, hv => exact ⟨t0, by omega, (Option.some.inj hv).symm⟩
      | 1, hv => exact ⟨t1, by omega, (Option.some.inj hv).symm⟩
      | 2, hv => exact ⟨t2, by omega, (Option.some.inj hv).symm⟩
      | kk + 3, hv => simp at hv
    have htk := hkt kk hkk
    obtain ⟨nK1, nK2, nK3⟩ := hKn.none
    obtain ⟨nT1, nT2, nT3⟩ := hTb.none
    have hkvl : kvK.length ≤ 100000 := by omega
    have sub2 : ∀ p ∈ Z, p ∈ TL ++ Z := fun p hp => List.mem_append_right _ hp
    have sub3 : ∀ p ∈ BL a b2 ++ (tl ++ R), p ∈ TL ++ Z := fun p hp => sub2 _ (sub1 p hp)
    have mob4 := sub2 _ mob3
    have mbk4 := sub2 _ mbk
    have mbd4 := sub2 _ mbd
    have mmd4 := sub2 _ mmd
    have mdd4 := sub2 _ mdd'
    have offTZ : OwnOff (TL ++ Z) [kd, tb, fd, ls] := OwnOff.app (fun p hp z hz => offT p hp z (by
      simp only [List.mem_cons, List.not_mem_nil, or_false] at hz ⊢
      rcases hz with h | h | h | h
      · exact .inl h
      · exact .inr (.inl h)
      · exact .inr (.inr (.inl h))
      · exact .inr (.inr (.inr (.inl h))))) offZ
    have offFd : OwnOff (TL ++ Z) [fd, ls] := fun p hp z hz => offTZ p hp z (.tail _ (.tail _ hz))
    have hI1 : @Ne Nat kd I := hne1 _ (.tail _ (.head _))
    have hI2 : @Ne Nat tb I := hne1 (tb, oT) (.tail _ (.tail _ (.head _)))
    have hI3 : @Ne Nat fd I := hne1 (fd, oF) (.tail _ (.tail _ (.tail _ (.head _))))
    have hI4 : @Ne Nat ls I := hne1 (ls, listOf vs.toArray nc) (.tail _ (.tail _ (.tail _ (.tail _ (.head _)))))
    have k9 : ∀ {x : Addr}, @Ne Nat fd x → @Ne Nat ls x → ∀ b ∈ [fd, ls], @Ne Nat x b := by
      intro x e1 e2 b hb
      rcases List.mem_cons.mp hb with rfl | hb
      · exact Ne.symm e1
      · rw [List.mem_singleton.mp hb]; exact Ne.symm e2
    have offN : OwnOff ((I, oI) :: (L + 2, ok2) :: (kd, oK) :: (tb, oT) :: (TL ++ Z)) [fd, ls] := offs (offs (offs (offs offFd (k9 (Ne.symm hk4) (Ne.symm hk5))) (k9 (Ne.symm hk1) (Ne.symm hk2))) (k9 hfL hsL)) (k9 hI3 hI4)
    clear offFd
    refine x_setsub (h := ?_)
    refine e_gcall (hk := fk_law_next _) (h := ?_)
    refine wa_v (h := ?_)
    refine wa_cons (h := ?_)
    refine e_int (h := ?_)
    refine wa_nil (h := ?_)
    refine ⟨In.of (by with_reducible assumption) (by with_reducible assumption), ?_⟩
    refine Does.use' (next_does w (rest := (I, oI) :: (L + 2, ok2) :: (kd, oK) :: (tb, oT) :: (TL ++ Z)) (by omega) (by omega) hF hi hlen (by omega) (by omega) (by decide) (by decide) offN hk7 hloF) rfl B X T (by assumption) (News.perm (by assumption) (by kd_all)) rfl (Nat.le_refl _) (Nat.le_refl _) ?_
    rintro v' h' tk' news' F' N' ⟨r, tr, kt2, oF2, rfl, r0, r1, hF2, rfl⟩
    obtain ⟨β, rfl⟩ := bz_of r0 r1
    clear hF
    k_sweep
    have hval : valueAt (stored kvK ((3 + kk : Nat) : Int) (.int (bz β) tr)) ((3 + kk : Nat) : Int) = some (.int (bz β) tr) := by rw [valueAt_stored, if_pos rfl]
    have hK9 := hK
    clear hK
    refine e_cell (h := ?_)
    refine e_var (h := ?_)
    refine c_dset (hsz := by (first | omega | (simp only [List.length_map]; omega))) (h := ?_); walk_at "p7"
    refine x_exprN (h := ?_)
    refine e_mcall (hk := mm_set_row _) (h := ?_)
    refine wa_cons (h := ?_)
    refine e_cmcall (hk := mk_data _) (h := ?_)
    refine wa_v1 (h := ?_)
    refine ⟨In.of (by with_reducible assumption) (by with_reducible assumption), ?_⟩
    (refine' Does.use' (data_does _ ?hDz84 ?hUz84 ?hAz84 ?hBz84 ?hlenz84 ?hsubz84 ?htz84) ?haz84 ?Bz84 ?Xz84 ?Tz84 ?Fz84 ?Nz84 ?hkz84 (Nat.le_refl _) (Nat.le_refl _) ?_; (case Nz84 => assumption); (case hAz84 => assumption); (case hBz84 => assumption); (case haz84 => exact rfl); (case hDz84 => omega); (case hUz84 => omega); (case hlenz84 => omega); (case htz84 => assumption); (case hsubz84 => kst_all); (case Bz84 => assumption); (case Xz84 => assumption); (case Tz84 => assumption); (case Fz84 => assumption); (case hkz84 => exact rfl)); rintro _ _ _ _ _ _ ⟨⟨_, rfl⟩, rfl⟩; k_sweep; (try dsimp only)
    refine wa_cons (h := ?_)
    refine e_tup (h := ?_)
    refine wa_nil (h := ?_)
    refine n_tup (h := ?_); walk_at "p1"
    refine wa_cons (h := ?_)
    refine e_cmp (h := ?_)
    refine Subscript_ ?_
    refine e_cell (h := ?_)
    refine e_var (h := ?_)
    refine c_ditem (h := ?_) (hg := by (intro _; with_unfolding_all rfl))
    refine e_int (h := ?_)
    refine eq_int ?_
    refine wa_nil (h := ?_)
    refine ⟨In.of (by with_reducible assumption) (by with_reducible assumption), ?_⟩
    rename Fr g L _ _ => F8
    rename News g L _ _ => N8
    rename_i h20 oK2 hK2 h21 tk21 t21 c h22 lc
    obtain ⟨lc1, lc2, lc3, lc4, lc5, lc6, lc7⟩ := lc
    rw [bz_is1]
    have k8 : ∀ {x : Addr}, @Ne Nat x tb → ∀ b ∈ [tb], @Ne Nat x b := by intro x e b hb; rw [List.mem_singleton.mp hb]; exact e
    have offT2 : OwnOff ((c, tup [] 0) :: (fd, oF2) :: (ls, listOf vs.toArray nc) :: (I, oI) :: (L + 2, ok2) :: (kd, oK2) :: (TL ++ Z)) [tb] := offs (offs (offs (offs (offs (offs (fun p hp z hz => offTZ p hp z (by rw [List.mem_singleton.mp hz]; exact .tail _ (.head _))) (k8 hk3)) (k8 (Ne.symm htL))) (k8 (Ne.symm hI2))) (k8 (Ne.symm hk5))) (k8 (Ne.symm hk4))) (k8 (Nat.ne_of_gt lc6))
    refine Does.use' (setrow_does w (md := md) (mdd := mdd) (mes := mes) (mn := mn) (tb := tb) (c := c) (β := β) (kvs := kvT) (f := (kk : Int)) (rest := (c, tup [] 0) :: (fd, oF2) :: (ls, listOf vs.toArray nc) :: (I, oI) :: (L + 2, ok2) :: (kd, oK2) :: (TL ++ Z)) (by omega) (by omega) (.tail _ (.tail _ (.tail _ (.tail _ (.tail _ (.tail _ mmd4)))))) (.tail _ (.tail _ (.tail _ (.tail _ (.tail _ (.tail _ mdd4)))))) q_tb hT loT (by omega) (nT1 kk (Nat.le_refl _)) (.head _) offT2) rfl B X T F8 (News.perm N8 (by kd_all)) rfl (Nat.le_refl _) (Nat.le_refl _) ?_
    rintro v' h' tk' news' F9 N9 ⟨rfl, nt, o9, oT9, rfl, hT9, hTT9, lnt, lont⟩
    refine ⟨rfl, ?_⟩
    clear F8 N8
    refine x_nil (h := ?_)
    have lnm := AllLt.mem lnt
    have ln1 : @LT.lt Nat _ kd nt := lnm (kd, oK2) (.tail _ (.tail _ (.tail _ (.tail _ (.tail _ (.tail _ (.head _)))))))
    have ln2 : @LT.lt Nat _ tb nt := lnm (tb, oT) (.head _)
    have ln3 : @LT.lt Nat _ fd nt := lnm (fd, oF2) (.tail _ (.tail _ (.head _)))
    have ln4 : @LT.lt Nat _ ls nt := lnm (ls, listOf vs.toArray nc) (.tail _ (.tail _ (.tail _ (.head _))))
    have ln5 : @LT.lt Nat _ (L + 2) nt := lnm (L + 2, ok2) (.tail _ (.tail _ (.tail _ (.tail _ (.tail _ (.head _))))))
    have ln6 : @LT.lt Nat _ I nt := lnm (I, oI) (.tail _ (.tail _ (.tail _ (.tail _ (.head _)))))
    rw [stored_absent (nK1 kk (Nat.le_refl _))] at hK2
    have hTT : TT w ((nt, o9) :: (c, tup [] 0) :: TL) o9 [([], c, .bool β)] := ⟨hTT9.ex, hTT9.dat, fun x hx => by rw [List.mem_singleton.mp hx]; exact ⟨[], 0, .tail _ (.head _), .nil⟩, hTT9.nd⟩
    have k5 : ∀ {x : Addr}, @Ne Nat x kd → @Ne Nat x tb → @Ne Nat x fd → @Ne Nat x ls → @Ne Nat x (L + 2) → ∀ z ∈ [kd, tb, fd, ls, L + 2], @Ne Nat x z := by
      intro x e1 e2 e3 e4 e5 z hz
      simp only [List.mem_cons, List.not_mem_nil, or_false] at hz
      rcases hz with rfl | rfl | rfl | rfl | rfl
      · exact e1
      · exact e2
      · exact e3
      · exact e4
      · exact e5
    refine hQT _ _ (turn_next F9 (News.perm (l' := (I, oI) :: (L + 2, ok2) :: (kd, oK2) :: (tb, oT9) :: (fd, oF2) :: (ls, listOf vs.toArray nc) :: (nt, o9) :: (c, tup [] 0) :: (TL ++ Z)) N9 (by kd_all)) ?_ ⟨_, oK2, oT9, oF2, _, kt2, (nt, o9) :: (c, tup [] 0) :: TL, _, _, bs ++ [β], rfl, rfl, hF2, by omega, hK2, hKn.snoc, hT9, .snoc (hTb.mono fun p hp => .tail _ (.tail _ hp)) (.head _) hTT lont, offs (offs offT (k5 (Nat.ne_of_gt lc5) (Nat.ne_of_gt lc6) (Nat.ne_of_gt lc1) (Nat.ne_of_gt lc2) (Nat.ne_of_gt lc4))) (k5 (Nat.ne_of_gt ln1) (Nat.ne_of_gt ln2) (Nat.ne_of_gt ln3) (Nat.ne_of_gt ln4) (Nat.ne_of_gt ln5))⟩)
    intro p hp
    rcases List.mem_cons.mp hp with rfl | hp
    · exact hne1 (L + 2, ok2) (.head _)
    rcases List.mem_cons.mp hp with rfl | hp
    · exact hI1
    rcases List.mem_cons.mp hp with rfl | hp
    · exact hI2
    rcases List.mem_cons.mp hp with rfl | hp
    · exact hI3
    rcases List.mem_cons.mp hp with rfl | hp
    · exact hI4
    rcases List.mem_cons.mp hp with rfl | hp
    · exact Nat.ne_of_gt ln6
    rcases List.mem_cons.mp hp with rfl | hp
    · exact Nat.ne_of_gt lc3
    · exact hne1 p (.tail _ (.tail _ (.tail _ (.tail _ (.tail _ hp)))))
  case done =>
    (try clear N6)
    (try clear F6)
    rintro vals' news' h' tk' ⟨u5, oK9, oT9, oF, k', kt, TL, kvK, kvT, bs, rfl, rfl, hF, rfl, hK9, hKn, hT9, hTb, offT⟩ F' N'
    show wpAny _ _ (execs _ _) _ _ _
    have hKn3 : Knw 3 kvK bs := hKn
    have hTb3 : Tabs w TL 3 kvT bs := hTb
    obtain ⟨q0, q1, q2, w0, w1, w2, c0, c1, c2, rfl, m0, m1, m2', T0, T1, T2, z0, z1, z2⟩ := hTb3.three
    have inTL : ∀ p ∈ TL, p ∈ (tb, oT9) :: (fd, oF) :: (ls, listOf vs.toArray nc) :: (TL ++ Z) := fun p hp => .tail _ (.tail _ (.tail _ (List.mem_append_left _ hp)))
    have inZ : ∀ p ∈ Z, p ∈ (tb, oT9) :: (fd, oF) :: (ls, listOf vs.toArray nc) :: (TL ++ Z) := fun p hp => .tail _ (.tail _ (.tail _ (List.mem_append_right _ hp)))
    have hM : MOk w a.bk md (fun i => bs.getD i false) ((tb, oT9) :: (fd, oF) :: (ls, listOf vs.toArray nc) :: (TL ++ Z)) ⟨mdd, mes, mn, tb, ot, oT9, oO, q0, q1, q2, w0, w1, w2, c0, c1, c2⟩ :=
      ⟨inZ _ mmd, inZ _ mdd', hAt.get (by kernel_rfl!), hAt.get (by kernel_rfl!), hAt.get (by kernel_rfl!), hAt.get (by kernel_rfl!), hAt.get (by kernel_rfl!), hAt.get (by kernel_rfl!), .head _, hT9, loT, inZ _ mot, hdO, loO, inTL _ m0, inTL _ m1, inTL _ m2', T0.mono inTL, T1.mono inTL, T2.mono inTL, z0, z1, z2⟩
    have k4 : ∀ {x : Addr}, @Ne Nat x kd → @Ne Nat x (L + 2) → ∀ z ∈ [kd, L + 2], @Ne Nat x z := by
      intro x e1 e2 z hz
      rcases List.mem_cons.mp hz with rfl | hz
      · exact e1
      · rw [List.mem_singleton.mp hz]; exact e2
    have off6 : OwnOff ((tb, oT9) :: (fd, oF) :: (ls, listOf vs.toArray nc) :: (TL ++ Z)) [kd, L + 2] := by
      refine offs (offs (offs (OwnOff.app ?_ ?_) (k4 (Ne.symm hk2) hsL)) (k4 (Ne.symm hk1) hfL)) (k4 (Ne.symm hk3) htL)
      · intro p hp; exact k4 (offT p hp _ (.head _)) (offT p hp _ (.tail _ (.tail _ (.tail _ (.tail _ (.head _))))))
      · intro p hp; exact k4 (offZ p hp _ (.head _)) (offZ2 p hp _ (.head _))
    refine nx gd f ccd A0 base mean mg mb un g L h' gs dr os tk' Q _ _ lv0 hun B X T F' (News.perm (l' := (kd, oK9) :: (L + 1, ob) :: (L + 2, ok2) :: (tb, oT9) :: (fd, oF) :: (ls, listOf vs.toArray nc) :: (TL ++ Z)) N' ?_) ⟨a, b2, tl ++ R, (tb, oT9) :: (fd, oF) :: (ls, listOf vs.toArray nc) :: (TL ++ Z), sl, fd, lv, md, kd, ob, ok2, oK9, _, n, tn, _, u5, none, none, none, kvK, rfl, rfl, hob2, hok2, hA, hB2, wf, hl13, fun p hp => inZ _ (sub1 p hp), hM, hsw, hfr, hn, hK9, lok, hKn3.kv wf, off6, Ne.symm (offZ (L + 1, ob) mob3 _ (.head _)), hkL⟩ hq
    intro p hp
    rcases List.mem_cons.mp hp with rfl | hp
    · exact .tail _ (.head _)
    rcases List.mem_cons.mp hp with rfl | hp
    · exact .tail _ (.tail _ (.tail _ (.tail _ (.tail _ (List.mem_append_right _ mob3)))))
    rcases List.mem_cons.mp hp with rfl | hp
    · exact .head _
    exact .tail _ (.tail _ hp)
/- Sa -/
noncomputable def P0 (_w : World) (g : Heap) (L : Addr) (vals : List (Option Value)) (news : Led) : Prop :=
  ∃ (sl : Addr) (ob okk : Obj) (vs : List Value) (ns : List Int), vals = [some (.ref sl), none, none, none, none, none, none, none, none] ∧ news = [(L + 1, ob), (L + 2, okk)] ∧ ob.data = .cell none ∧ okk.data = .cell none ∧ g.IsList sl vs.toArray ∧ IntsAre vs ns ∧ ns.length ≤ 63
set_option maxHeartbeats 16000000 in
theorem seg_feed (w : World) (next : LawGo w 2 (P2 w)) : LawGo w 0 (P0 w) := by
  refine' law_step next ?ho ?H
  case ho => k_is
  intro nx gd f ccd A0 base mean mg mb un g L h gs dr os tk0 Q vals news lv0 hun B X T F N hP hq
  have v0 := lv0 0 (Str.ofString "script") rfl
  have v1 := lv0 1 (Str.ofString "feed") rfl
  have v2 := lv0 2 (Str.ofString "leaves") rfl
  have v3 := lv0 3 (Str.ofString "t") rfl
  have v4 := lv0 4 (Str.ofString "model") rfl
  have v5 := lv0 5 (Str.ofString "leaf") rfl
  have v6 := lv0 6 (Str.ofString "parts") rfl
  have v7 := lv0 7 (Str.ofString "part") rfl
  have v8 := lv0 8 (Str.ofString "told") rfl
  obtain ⟨sl, ob, okk, vs, ns, rfl, rfl, hob, hok, hsl, hi, hlen⟩ := hP
  show wpAny _ _ (execs (_ :: _) _) _ _ _
  refine x_asg (h := ?_)
  refine e_dstr (h0 := by (exact List.cons_ne_nil _ _)) (hlen := by (exact Nat.le_of_ble_eq_true rfl)) (h := ?_); walk_at "p3"
  refine pairTrees_cons_walk ?_
  refine e_str (h := ?_)
  refine e_lc (by assumption) (by with_unfolding_all rfl) (by decide) rfl (by decide) rfl (fun _ => by with_unfolding_all rfl) ?_
  refine Subscript_ ?_
  refine e_var (h := ?_)
  refine wpAny_Slice ?_
  refine evalPart_none_step ?_
  refine evalPart_some_step ?_
  refine e_int (h := ?_)
  refine evalPart_none_step ?_
  rename Fr g L _ _ => F2
  rename News g L _ _ => N2
  rename_i fd h2 o l2 lo2 hd2
  obtain ⟨l21, l22, -⟩ := l2
  refine slice_list (s := ⟨_, gs, dr, _, os⟩) F2 N2 (hsl.at fun o e => F2.keep _ o e) IsPart.none (IsPart.int 60 _) (fun h3 F3 N3 => ?_) (by with_unfolding_all rfl) (fun _ => by with_unfolding_all rfl) (by rw [List.size_toArray, hi.length, sizeLine_eq]; omega)
  rw [show slicePick vs.toArray Option.none (some 60) Option.none = (vs.take 60).toArray by rw [show (60 : Int) = ((60 : Nat) : Int) from rfl, slicePick_upto']] at N3
  have hi2 := IntsAre.take hi 60
  clear F2 N2
  (try clear F)
  (try clear N)
  refine ⟨_, _, vs.take 60, 0, _, _, _, fun kk ys nx => nx = _ ∧ ∃ ms, IntsAre ys ms ∧ ms.length = kk, rfl, rfl, rfl, F3, N3, .head _, Or.inl rfl, by rw [List.length_take]; omega, ⟨rfl, [], .nil, rfl⟩, fun kk ys nx h => by rw [h.1]; exact .head _, ?elt, ?fin⟩
  case elt =>
    clear hq nx F3 N3
    rintro kk v ys nx2 I oI C oC D m2 h4 tk4 E' hkk hP ⟨rfl, ms, hys, hml⟩ hns hm2 F4 N4 off4 ne4
    obtain ⟨c, tc, hc, rfl⟩ := ints_at2 hi2 hP
    refine wpAny_BinOp ?_
    refine cv_local (hC := by (exact List.Mem.tail _ (List.Mem.head _))) (h := ?_)
    refine e_int (h := ?_)
    refine o_mod (hb := (by decide)) (h := ?_)
    exact ⟨_, _, _, rfl, by assumption, by assumption, off4, rfl, ms ++ [_], ints_app1 hys, by simp [hml]⟩
  case fin =>
    clear F3 N3
    rintro D ys nx2 h4 tk4 ⟨rfl, ms, hys, hml⟩ F4 N4 o1
    simp only [LCg.Off1] at o1
    obtain ⟨o11, o12, o13, o14, -⟩ := o1
    have hml2 : ms.length ≤ 60 := by rw [hml, List.length_take]; omega
    obtain ⟨S3, hS3⟩ : ∃ S3 : Addr × Obj, News g L h4 ((D, LCg.lst ys) :: S3 :: (fd, o) :: (L + 1, ob) :: (L + 2, okk) :: []) := ⟨_, N4⟩
    have N5 : News g L h4 ((D, LCg.lst ys) :: (fd, o) :: (L + 1, ob) :: (L + 2, okk) :: []) := hS3.perm (fun p hp => by
      rcases List.mem_cons.mp hp with h | hp
      · rw [h]; exact .head _
      · exact .tail _ (.tail _ hp))
    clear N4 hS3
    refine pairTrees_cons_walk ?_
    refine e_str (h := ?_)
    refine e_int (h := ?_)
    refine pairTrees_nil_walk ?_
    refine dm_str (hkv := by (dsimp only [strPairs])) (hn := by (first | rfl | kernel_rfl!)) (h := ?_); walk_at "p12"
    refine s_var (h := ?_); walk_at "p9"
    refine x_if (h := ?_)
    refine isTrue_not ?_
    (refine' isTrue_plain ?_ ?hz83; (case hz83 => exact rfl))
    refine e_gcall (hk := fk_law_words_right _) (h := ?_)
    refine wa_v1 (h := ?_)
    refine ⟨In.of (by with_reducible assumption) (by with_reducible assumption), ?_⟩
    rename Fr g L _ _ => F6
    rename News g L _ _ => N6
    rename Obj.IsDictOf _ _ [(_, _), (_, _)] => hd6
    rename_i h5 o5 tk5 h6
    have offr : OwnOff ((L + 1, ob) :: (L + 2, okk) :: []) [fd, D] := by
      intro p hp b hb
      simp only [List.mem_cons, List.not_mem_nil, or_false] at hp hb
      rcases hp with rfl | rfl <;> rcases hb with rfl | rfl <;> (show @Ne Nat _ _; omega)
    refine Does.use' (words_does w (fd := fd) (ls := D) (o := o5) (vs := ys) (ns := ms) (k := 0) (rest := (L + 1, ob) :: (L + 2, okk) :: []) (by omega) (by omega) hd6 hys hml2 (by decide) (by decide) offr o12 lo2) rfl B X T F6 (N6.perm (by
      intro p hp
      rcases List.mem_cons.mp hp with h | hp
      · rw [h]; exact .tail _ (.head _)
      rcases List.mem_cons.mp hp with h | hp
      · rw [h]; exact .head _
      exact .tail _ (.tail _ hp))) rfl (Nat.le_refl _) (Nat.le_refl _) ?_
    rintro v' h' tk' news' F7 N7 ⟨rfl, o7, k7, tk7, hd7, k71, k72, rfl⟩
    clear F6 N6
    refine truthy_b (h := ?_)
    refine if_f (hc := (by kernel_rfl!)) (h := ?_)
    exact nx gd f ccd A0 base mean mg mb un g L h' gs dr os _ Q _ _ lv0 hun B X T F7 N7 ⟨sl, fd, D, ob, okk, o7, ys, ms, _, k7, tk7, rfl, rfl, hob, hok, hd7, hys, hml2, k71, by omega, o12, lo2, Nat.ne_of_gt l21, Nat.ne_of_gt l22, Ne.symm o13, Ne.symm o14⟩ hq
/- LawU -/
theorem law_all (w : World) : LawGo w 0 (P0 w) := seg_feed w (seg_bank w (seg_form w (seg_end w)))
theorem law_start {w : World} {g h : Heap} {L fa sl : Addr} {ccd : Value} {name qual : Str} {params : Arguments} {body : List Stmt} {scope : Scope} {dV kV doc pm cdv ct oc : Value} {an od : Option Addr} {osl : Array (Option Value)} {base : Heap} {mean : ExcName → Option Value} {mg mb : Str → Option Value} {gs : Array GenState} {dr : Drawn} {tk : Nat} {os : OsState} {Q : Flow → Shared → Prop} {E : Value → Shared → Prop} {binds : List (Str × Value)} {ob okk : Obj} {vs : List Value} {ns : List Int}
    (ho : (heapK w.params).lookup 950 = some ⟨oc, od, .func (fnOf name qual params body scope dV kV doc pm an cdv ct), osl⟩) (hall : lawNames.all (okL scope) = true)
    (hin : (binds.all fun p => lawNames.contains p.1 || !(scope.names.lookup p.1 == some .local)) = true) (hvals : setAll lawNames (fun n => scope.names.lookup n == some .local) binds (List.replicate lawNames.length none) = [some (.ref sl), none, none, none, none, none, none, none, none])
    (B : Below callerA base [] g) (X : (heapK w.params).In g) (T : Top viewK (looseW viewK [Str.ofString "MOST_BITS"]) mean mg mb g) (F : Fr g L h (bindL (fun n => scope.names.lookup n) binds fun _ => none)) (N : News g L h [(L + 2, okk), (L + 1, ob)]) (hob : ob.data = .cell none) (hok : okk.data = .cell none)
    (hL : g.IsList sl vs.toArray) (hI : IntsAre vs ns) (hlen : ns.length ≤ 63) (hq : ∀ h' tk' m', Fr g L h' m' → Q (.ret (.bool true)) ⟨h', gs, dr, tk', os⟩) :
    wpAny (model PRG w) (callerA.deeper (envX qual scope L fa ccd [(Str.ofString "known", L + 2), (Str.ofString "bank", L + 1)])) (execs body (envX qual scope L fa ccd [(Str.ofString "known", L + 2), (Str.ofString "bank", L + 1)])) Q E ⟨h, gs, dr, tk, os⟩ := by
  have hnd' : lawNames.Nodup := by decide +kernel
  have F2 : Fr g L h (lkv lawNames [some (.ref sl), none, none, none, none, none, none, none, none]) := by
    have e : bindL (fun n => scope.names.lookup n) binds (fun _ => none) = lkv lawNames [some (.ref sl), none, none, none, none, none, none, none, none] := by
      rw [lkv_none lawNames lawNames.length]
      have := bindL_lkv (kindOf := fun n => scope.names.lookup n) hnd' (binds := binds) (vals := List.replicate lawNames.length none) (by simp) (fun p hp hl => by
        have := List.all_eq_true.mp hin p hp
        rw [Bool.or_eq_true] at this
        rcases this with h | h
        · simpa using h
        · rw [hl] at h; simp at h)
      rw [hvals] at this
      exact this
    rw [← e]; exact F
  have hoks : ∀ x ∈ lawNames, okL scope x = true := List.all_eq_true.mp hall
  refine wpAny_mono (E := fun _ _ => False) (law_all w ho callerA.guards fa ccd callerA base mean mg mb 7 g L h gs dr os tk Q _ _ (fun i x hx => ⟨hoks x (List.mem_of_getElem? hx), hx, hnd'⟩) (by decide) B X T F2 (News.perm N (fun p hp => ?_)) ⟨sl, ob, okk, vs, ns, rfl, rfl, hob, hok, hL, hI, hlen⟩ hq) (fun _ _ h => h) (fun _ _ h => h.elim)
  simp only [List.mem_cons, List.not_mem_nil, or_false] at hp ⊢
  rcases hp with h | h
  · exact .inr h
  · exact .inl h
theorem row_holds (said : PySem.Challenge.rw_qz0034_01.row.wellSaid = true) (hw : PySem.Challenge.rw_qz0034_01.row.toRowW.promised) {d : DefRec} {kwd : List (Str × Expr)} (hdef : defOf viewK PySem.Challenge.rw_qz0034_01.row.name = some (d, kwd))
    (hp : PySem.Challenge.rw_qz0034_01.row.prog.theDef PySem.Challenge.rw_qz0034_01.row.name = some (d.params, d.body, d.scope)) (hk : kwWritten? d.params.kwonlyargs d.params.kw_defaults = some kwd)
    (hc : WalkO viewK looseK (XL viewK lvK) (Hook.says hookK) PySem.Challenge.rw_qz0034_01.row.toRowW d kwd fun f vs => PySem.call f vs) : PySem.Challenge.rw_qz0034_01.row.Holds :=
  holds_open (q := viewK) (loose := looseK) (Xt := xtK) (XP := XL viewK lvK) (Yf := Hook.obs hookK) (Ya := Hook.val hookK) (YP := Hook.says hookK) (N := 12000) leftK (Hook.of hookK) (Hook.keeps hookK) (fun s e => xl_of s (Bool.and_eq_true_iff.mp e).1) XL.keeps
    hdef hp hk (fun s e => recFacts_of (Bool.and_eq_true_iff.mp e).2) (by rfl) said (by decide +kernel) ⟨rfl, rfl, rfl, rfl, rfl, by decide +kernel⟩ hw hc
end Mine
local macro_rules | `(tactic| k_qdec) => `(tactic| decide +kernel)
set_option maxHeartbeats 0 in
theorem PySem.Challenge.cw_qz0034_01_holds : PySem.Challenge.rw_qz0034_01.Holds := by
  w_on
  refine holds_law Mine.law_said fun said => ?_
  refine Mine.row_holds said ?hw (by rfl) (by rfl) (by rfl) ?hc
  case hw => w_witness2
  case hc =>
    intro w s₀ s₁ mg mb G Y fa o pm cd doc dV kV ho hd hcd hD hmg hg args vals as hpre hlay hrd hwl hlo
    have KX : (Mine.heapK w.params).In s₁.heap := Y
    k_behind G ho hd hcd hD hmg hpre hlay hrd hwl hlo cd
    rename Fr _ _ _ _ => F
    rename News _ _ _ _ => N
    rename CellsAre _ _ _ => Y
    rename Frag.In _ _ => X
    rename Top _ _ _ _ _ _ => T
    rename Below _ _ _ _ => B
    rename IntsAre _ _ => hI
    rename Heap.IsList _ _ _ => hL
    rename _ = #[] => hg
    rename ¬ _ < _ => hc
    rename_i oK oB cK cB
    clear Y
    refine' Mine.law_start (ob := oB) (okk := oK) ?ho ?hall ?hin ?hvals B X T F N ?hob ?hok hL hI ?hlen ?hq
    case ho => k_is
    case hall => kernel_rfl!
    case hin => kernel_rfl!
    case hvals => exact rfl
    case hob => exact cB.trans (congrArg Data.cell (by kernel_rfl!))
    case hok => exact cK.trans (congrArg Data.cell (by kernel_rfl!))
    case hlen => omega
    case hq => intro h' tk' m' F'; exact goodW_bool F' hg (raisesW_false (by wrow_none_raised)) (by wrow_post) rfl
