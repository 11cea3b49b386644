import PyProof.Rows.All
import Wide.All
import OpenK.AllK
import Wide.FinOn
import Lean
import PySem.Challenge.RW_pc0141_01
set_option Elab.async false
set_option linter.unusedVariables false
set_option linter.unusedSimpArgs false
set_option maxRecDepth 100000
open PySem PySem.W PyProof.Rows
local macro_rules | `(tactic| walk_at $s:str) => `(tactic| k_extra $s)
local macro_rules | `(tactic| ktr_enter) => `(tactic| k_extra "ktr_enter")
local macro_rules | `(tactic| k_mem) => `(tactic| k_extra "k_mem")
local macro_rules | `(tactic| x_close) => `(tactic| k_extra "x_close")
section
open PySem PySem.W PySem.W.X PyProof.Rows
set_option maxRecDepth 100000
namespace Mine
def lk0 : Look := { strict := !(importedModules PySem.Challenge.rw_pc0141_01.row.prog.main.body).all cThrough.contains, foot := none, bare := (["vars", "dir", "locals"] : List Str).filter (readsOut PySem.Challenge.rw_pc0141_01.row.prog PySem.Challenge.rw_pc0141_01.row.prog.main.body) }
def lk1 : Look := { strict := false, foot := none, bare := [] }
theorem noRoadLSs_all (lk : Look) : ∀ l : List Stmt, noRoadLSs lk l = l.all (noRoadLS lk)
  | [] => rfl
  | s :: r => by
    show (noRoadLS lk s && noRoadLSs lk r) = _
    rw [noRoadLSs_all lk r]; rfl
theorem lk0_eq : lk0 = lk1 := by
  have h1 : (!(importedModules PySem.Challenge.rw_pc0141_01.row.prog.main.body).all cThrough.contains) = false := by
    have : (importedModules PySem.Challenge.rw_pc0141_01.row.prog.main.body).all cThrough.contains = true := by decide +kernel
    rw [this]; rfl
  have h2 : (["vars", "dir", "locals"] : List Str).filter (readsOut PySem.Challenge.rw_pc0141_01.row.prog PySem.Challenge.rw_pc0141_01.row.prog.main.body) = [] := by
    have : ((["vars", "dir", "locals"] : List Str).filter (readsOut PySem.Challenge.rw_pc0141_01.row.prog PySem.Challenge.rw_pc0141_01.row.prog.main.body)).isEmpty = true := by decide +kernel
    exact List.isEmpty_iff.mp this
  unfold lk0 lk1
  rw [h1, h2]
def bodyM : List Stmt := PySem.Challenge.rw_pc0141_01.row.prog.main.body
theorem part1 : (bodyM.take 51).all (noRoadLS lk1) = true := by decide +kernel
theorem part2 : (bodyM.drop 52).all (noRoadLS lk1) = true := by decide +kernel
def strOf : Option Stmt → PySem.Str
  | some (.Assign _ (.Constant (.str x) _ _) _) => x
  | _ => ⟨#[]⟩
abbrev strIn {ts : List Expr} {x : PySem.Str} {k : Nat} {p q : Pos} (_ : bodyM[51]? = some (.Assign ts (.Constant (.str x) k p) q)) : PySem.Str := x
def resv : PySem.Str := strIn rfl
theorem resv_at : ∃ n p1 k p2 p3, bodyM[51]? = some (.Assign [.Name n p1] (.Constant (.str resv) k p2) p3) ∧ lk1.name n = true := by
  refine ⟨_, _, _, _, _, rfl, ?_⟩
  k_qdec
theorem resv_0 : resv.cps[0]? = some 32 := by
  have h : (resv.cps[0]? == some 32) = true := by delta resv strIn; k_qdec
  exact eq_of_beq h
theorem resv_l1 : (!resv.cps.toList.any (fun c => c == 123 || c == 125)) = true := by delta resv strIn; k_qdec
theorem resv_l2 : (!resv.cps.toList.any (· == 46)) = true := by delta resv strIn; k_qdec
theorem resv_road : roadStr resv = false := by
  have h1 := resv_l1
  have h2 := resv_l2
  rw [Array.any_toList] at h1 h2
  unfold roadStr
  rw [Bool.not_eq_true'] at h1 h2
  rw [h1, h2]; rfl
theorem ne_resv {n : PySem.Str} (h : n.cps[0]? ≠ some 32) : n ≠ resv := fun e => h (e ▸ resv_0)
theorem not_in {l : List PySem.Str} (h : (l.all fun n => n.cps[0]? != some 32) = true) : l.contains resv = false := by
  rw [Bool.eq_false_iff]
  intro hc
  rw [List.contains_iff_mem] at hc
  have := List.all_eq_true.mp h _ hc
  rw [resv_0] at this
  exact absurd this (by decide)
theorem resv_pre : resv.opensWith "__" = false := by
  have h : (!resv.opensWith "__") = true := by delta resv strIn; k_qdec
  rwa [Bool.not_eq_true'] at h
theorem frame_no : frameAttrs.contains resv = false := not_in (by k_qdec)
theorem resv_word : lk1.word resv = true := by
  unfold Look.word attrL
  rw [frame_no, resv_pre]
  rfl
theorem resv_str : lk1.str resv = true := by
  unfold Look.str
  rw [resv_word, resv_road, Bool.or_true]
  rfl
theorem part_r {s : Stmt} (h : bodyM[51]? = some s) : noRoadLS lk1 s = true := by
  obtain ⟨n, p1, k, p2, p3, e, hn⟩ := resv_at
  rw [e] at h
  cases h
  show (lk1.stores [Expr.Name n p1] && noRoadLs lk1 [Expr.Name n p1] && noRoadL lk1 (Expr.Constant (.str resv) k p2)) = true
  have e1 : noRoadLs lk1 [Expr.Name n p1] = true := by
    show (lk1.name n && noRoadLs lk1 []) = true
    rw [hn]; rfl
  have e2 : noRoadL lk1 (Expr.Constant (.str resv) k p2) = true := by
    show lk1.str resv = true
    exact resv_str
  rw [e1, e2]
  rfl
theorem whole_r : noRoadLSs lk1 bodyM = true := by
  rw [noRoadLSs_all, List.all_eq_true]
  intro s hs
  obtain ⟨i, hi, e⟩ := List.mem_iff_getElem.mp hs
  rcases Nat.lt_trichotomy i 51 with q | q | q
  · refine List.all_eq_true.mp part1 s ?_
    exact List.mem_take_iff_getElem.mpr ⟨i, by omega, e⟩
  · refine part_r ?_
    subst q
    rw [List.getElem?_eq_getElem hi, e]
  · refine List.all_eq_true.mp part2 s ?_
    exact List.mem_drop_iff_getElem.mpr ⟨i - 52, by omega, by rw [← e]; congr 1; omega⟩
theorem look_r : noRoadLSs { strict := !(importedModules PySem.Challenge.rw_pc0141_01.row.prog.main.body).all cThrough.contains, foot := none, bare := (["vars", "dir", "locals"] : List Str).filter (readsOut PySem.Challenge.rw_pc0141_01.row.prog PySem.Challenge.rw_pc0141_01.row.prog.main.body) } PySem.Challenge.rw_pc0141_01.row.prog.main.body = true := by
  show noRoadLSs lk0 bodyM = true
  rw [lk0_eq]; exact whole_r
set_option maxHeartbeats 0 in
theorem wellSaid : PySem.Challenge.rw_pc0141_01.wellSaid = true := by
  delta OpenLaw.wellSaid OpenRow.wellSaid OpenRow.partSaid looksOpen
  repeat' first | (with_reducible exact look_r) | (with_reducible refine look_both ?_ ?_) | decide +kernel | k_qdec
end Mine
end

section
open PySem PySem.W PySem.W.X PyProof.Rows
set_option maxRecDepth 100000
set_option maxHeartbeats 0
namespace Mine
abbrev pw : Program := PySem.Challenge.pw_pc0141_01
def p0 : Pos := ⟨0, 0, 0, 0⟩
def p3 : Pos := ⟨6, 0, 6, 12⟩
def pE : Pos := ⟨457, 0, 482, 83⟩
def benv : Env := { scope := pw.main.scope, locals := mainNs, globals := mainNs, cells := [], code := .ref 13, frame := some 14 }
def bE : List Stmt := behindTheImports pw
def cE : Code := .body bE benv
abbrev Bf : List Frame := [topFrame p0]
abbrev ann0 : Option Value := some (.ref 6)
def oTup (vs : List Value) : Obj := { cls := .type "tuple", data := .seq vs.toArray }
def oFld (vs : List Value) : Obj := { cls := .none, data := .fields vs.toArray }
def o13 : Obj := { cls := .type "code", data := .fields #[.str "<module>" 182, .str "<module>" 183, .str "/claim/cut.py" 184, .int 1 0, .int 0 0, .int 0 0, .int 0 0, .int 0 0, .ref 11, .bool false, .int 181 0, .ref 12, .none, .none, .none, .none, .int 185 0, .int 1 0, .str "/claim/cut.py" 186] }
def o14 : Obj := { cls := .type "frame", slots := #[some (.ref 13), some (.ref 3), some (.ref 3), none, some (.str "__main__" 164), none, some (.ref 0)] }
noncomputable def objsA (P : Params) : List Obj := (boot_heap P).objs.toList ++ [oTup [], oFld [], o13, o14]
def treeAt (os : List Obj) : Nat → Nat → Nat → BT
  | 0, _, _ => .nil
  | n + 1, a, b => match os[b]? with
    | some o => .node o (treeAt os n (2 * a) (a + b)) (treeAt os n (2 * a) (2 * a + b))
    | none => .nil
noncomputable def SA (P : Params) (os : OsState) : SharedT := ⟨treeAt (objsA P) 6 1 0, 15, {}, #[], {}, 187, os⟩
def defAtM (i : Nat) : Arguments × List Stmt × Scope := match pw.main.body[i]? with
  | some (.FunctionDef _ a b _ _ _ s _ _ _) => (a, b, s)
  | _ => (⟨[], [], none, [], [], none, []⟩, [], ⟨.function, [], false, false, []⟩)
def wallFn (g : Addr) (pm cd : Value) : FuncData := { name := "_wall", qualname := "_wall", params := (defAtM 0).1, body := .stmts (defAtM 0).2.1, scope := (defAtM 0).2.2, globals := g, closure := [], defaults := .none, kwdefaults := .none, pyModule := pm, code := cd }
def ent (P : Params) (k : PySem.Str) (t : Nat) (v : Value) : DictEntry := ⟨PyData.keyHash P k, .str k t, v⟩
def oNs3 (P : Params) : Obj := { cls := .type "dict", data := .dict #[ent P "__name__" 165 (.str "ledgerspeak.references" 194), ent P "__doc__" 166 .none, ent P "__package__" 167 .none, ent P "__loader__" 168 (.builtin "__main__.__loader__#opaque"), ent P "__spec__" 169 .none, ent P "__annotations__" 170 (.ref 6), ent P "__builtins__" 171 (.ref 4), ent P "__file__" 173 (.str "/claim/cut.py" 172), ent P "__cached__" 174 .none, ent P "_wall" 193 (.ref 21), ent P "MOST_SUBSCRIPTS" 197 (.int 7 196), ent P "FIGURE_NAMES" 231 (.ref 22)] 12 }
def figs (P : Params) : Nat → List (PySem.Str × PySem.Str) → List DictEntry
  | _, [] => []
  | t, (k, v) :: r => ent P k t (.str v (t + 1)) :: figs P (t + 2) r
def oFigs (P : Params) : Obj := { cls := .type "dict", data := .dict (figs P 198 [("ZERO", "ZERO"), ("ZEROS", "ZERO"), ("ZEROES", "ZERO"), ("SPACE", "SPACE"), ("SPACES", "SPACE"), ("HIGH-VALUE", "HIGH"), ("HIGH-VALUES", "HIGH"), ("LOW-VALUE", "LOW"), ("LOW-VALUES", "LOW"), ("QUOTE", "QUOTE"), ("QUOTES", "QUOTE")]).toArray 11 }
noncomputable def objs3 (P : Params) : List Obj := (((boot_heap P).objs.toList).set 3 (oNs3 P)) ++
  [oTup [], oFld [.int 1 0, .int 0 0, .ref 20], o13, o14, oTup [], oFld [], oTup [.str "k" 190], oTup [], { cls := .none, data := .func (wallFn 0 .none .none) },
   { cls := .type "code", data := .fields #[.str "_wall" 187, .str "_wall" 188, .str "/claim/cut.py" 189, .int 1 0, .int 1 0, .int 0 0, .int 0 0, .int 3 0, .ref 15, .bool true, .int 181 0, .ref 16, .none, .ref 17, .ref 18, .ref 19, .int 191 0, .int 1 0, .str "/claim/cut.py" 192] },
   { cls := .type "function", data := .func (wallFn 3 (.str "__main__" 164) (.ref 20)) }, oFigs P]
noncomputable def S3 (P : Params) (os : OsState) : SharedT := ⟨treeAt (objs3 P) 6 1 0, 23, {}, #[], {}, 232, os⟩
theorem preM : ∀ (w : World) (os : OsState), topGo treeTable pw w 11 ann0 12 ⟨boot_heap w.params, Array.mk [], boot_drawn, boot_toks, os⟩ (topStub pw) = some ((SA w.params os).abs, ⟨denote treeTable cE, cE, p0, Bf⟩) := fun w os => by kernel_rfl
theorem blockM : ∀ (w : World) (os : OsState), segRun treeTable pw w 11 ann0 1 1 (SA w.params os).abs (blockOf bE benv cE p0 Bf) = some (.next, (SA w.params os).abs, cE, p0) := fun w os => by kernel_rfl
theorem pieceA0 : ∀ (w : World) (os : OsState), segRunT treeTable pw (w.withFollow "special-get-raises" false) 11 ann0 1 400 (SA w.params os) (piecesOf (bE.take 4) benv cE p0 Bf) = some (.next, S3 w.params os, cE, p3) := fun w os => by kernel_rfl
theorem pieceA1 : ∀ (w : World) (os : OsState), segRunT treeTable pw (w.withFollow "special-get-raises" true) 11 ann0 1 400 (SA w.params os) (piecesOf (bE.take 4) benv cE p0 Bf) = some (.next, S3 w.params os, cE, p3) := fun w os => by kernel_rfl
end Mine
end

section
open PySem PySem.W PySem.W.X PyProof.Rows
set_option maxRecDepth 100000
set_option maxHeartbeats 0
namespace Mine
abbrev rw1 : OpenLaw := PySem.Challenge.rw_pc0141_01
def qv : Program := { pw with main := { pw.main with body := pw.main.body.drop 71 } }
def looseV : List PySem.Str := (["_wall", "MOST_SUBSCRIPTS", "FIGURE_NAMES", "is_part_next", "read_subscripts", "read_part", "read_ref", "read_all", "read_figure", "read_operand", "LedgerError", "TokenFault", "GrammarFault", "FIGURES", "cut_quotient", "decimal", "negated", "units_at", "is_whole", "whole_of", "worth_of", "read_decimal", "MOST_DEEP", "read_expression", "sign_among", "read_sum", "read_product", "read_factor", "is_lone_number", "read_power", "read_primary", "FIGURE_WORDS", "word_ahead", "phrase_words", "opening_length", "body_here", "branches_here", "begins_operand", "read_mode", "read_args", "read_call", "Token", "MOST_OCTET", "RESERVED", "is_reserved", "octets_of_text", "Reader", "_law_draw", "_law_source", "_law_A", "_law_B", "_law_T", "_law_ONE", "_law_REFS", "_law_CONDS", "_law_pick", "_law_tokens", "_law_body", "_law_heard", "_law_OTHERS", "_law_read", "_law_args"] : List String).map PySem.Str.ofString
abbrev xt1 (s : Shared) : Bool := xlAt qv [] s && recOk rw1.row.toRowW.records s
def looksV (h₀ : Heap) (s : Shared) :=
  ((staticsOk (importedModules pw.main.body) h₀ s.heap && namesBound pw s.heap && gensDone s && laidKept h₀ s.heap), openSeen qv looseV (importedModules pw.main.body) xt1 true s)
theorem sizeM : ∀ w : World, ((boot_heap w.params).isNs mainGlobals && (Array.mk ([] : List GenState)).size == 0, (boot_heap w.params).objs.size, (boot_heap w.params).nsMap mainGlobals "__annotations__") = (true, 11, ann0) := fun w => by kernel_rfl
theorem finM (w : World) (s : Shared) (c : Code) (pos : Pos) : topRun treeTable pw w 11 ann0 2 s ⟨doneF .next, c, pos, Bf⟩ = some s := by
  obtain ⟨h, g, d, t, o⟩ := s
  rfl
theorem opensM : ∀ w : World, (fencedOpening treeTable pw w 8000).map (fun s => (s.heap, s.gens, s.drawn, s.toks)) = some (boot_heap w.params, Array.mk [], boot_drawn, boot_toks) :=
  boot_open (by rfl) (by rfl) (fun s => by rfl)
theorem left_of {α : Type} {Yf : Shared → α} {Ya : World → α}
    (pieceL : ∀ (w : World) (os : OsState), (segRunT treeTable pw w 11 ann0 1 4000 (S3 w.params os) (piecesOf (bE.drop 4) benv cE p3 Bf)).map (fun r => (r.1, r.2.2, looksV (boot_heap w.params) r.2.1.abs, Yf r.2.1.abs)) = some (.next, (cE, pE), (true, openGood qv looseV), Ya w)) :
    LeftO pw qv looseV xt1 Yf Ya 8000 := fun w => by
  obtain ⟨⟨h, gs, d, k, os⟩, e, e'⟩ := Option.map_eq_some_iff.mp (opensM w)
  obtain ⟨rfl, rfl, rfl, rfl⟩ : h = boot_heap w.params ∧ gs = Array.mk [] ∧ d = boot_drawn ∧ k = boot_toks := by simpa using e'
  obtain ⟨z1, z2, z3⟩ : _ ∧ _ ∧ _ := by simpa only [Prod.mk.injEq] using sizeM w
  obtain ⟨⟨f, s, c, q⟩, hr, hl⟩ := Option.map_eq_some_iff.mp (pieceL w os)
  obtain ⟨rfl, l1, l2, l3⟩ : f = .next ∧ (c, q) = (cE, pE) ∧ looksV (boot_heap w.params) s.abs = (true, openGood qv looseV) ∧ Yf s.abs = Ya w := by
    have := hl
    simp only [Prod.mk.injEq] at this
    exact ⟨this.1, by rw [this.2.1.1, this.2.1.2], this.2.2.1, this.2.2.2⟩
  obtain ⟨rfl, rfl⟩ := Prod.mk.inj l1
  have hA : segRun treeTable pw w 11 ann0 1 400 (SA w.params os).abs (piecesOf (bE.take 4) benv cE p0 Bf) = some (.next, (S3 w.params os).abs, cE, p3) := by
    refine segRun_of ?_
    exact byRow2 "special-get-raises" (P := fun w => segRunT treeTable pw w 11 ann0 1 400 (SA w.params os) (piecesOf (bE.take 4) benv cE p0 Bf) = some (.next, S3 w.params os, cE, p3)) (fun w => pieceA0 w os) (fun w => pieceA1 w os) w
  have hB := segRun_of hr
  have fin : topRun treeTable pw w 11 ann0 2 s.abs (restOf [] benv cE pE Bf) = some s.abs := piece_nil (finM w s.abs cE pE)
  have r1 := piece_app (rest := []) hB fin
  have r2 := piece_app (rest := bE.drop 4 ++ []) hA r1
  have eb : bE.take 4 ++ (bE.drop 4 ++ []) = bE := by rw [List.append_nil, List.take_append_drop]
  rw [eb] at r2
  have r3 := piece_block (blockM w os) r2
  have r4 := go_top (preM w os) r3
  have r := topRun_mono (8000 - (12 + (1 + (400 + (4000 + 2))))) _ _ _ _ r4
  have t : topFrom treeTable pw w 8000 ⟨boot_heap w.params, Array.mk [], boot_drawn, boot_toks, os⟩ = some s.abs := by
    unfold topFrom
    dsimp only
    rw [z1, z2, z3]
    show (topRun treeTable pw w 11 ann0 8000 _ (topStub pw)).bind _ = _
    rw [r]
    have l2' : (staticsOk (importedModules pw.main.body) (boot_heap w.params) s.abs.heap && namesBound pw s.abs.heap && gensDone s.abs && laidKept (boot_heap w.params) s.abs.heap) = true := congrArg Prod.fst l2
    show (match staticsOk (importedModules pw.main.body) (boot_heap w.params) s.abs.heap && namesBound pw s.abs.heap && gensDone s.abs && laidKept (boot_heap w.params) s.abs.heap with | true => some s.abs | false => none) = _
    rw [l2']
  unfold openEnds
  rw [e]
  show (topFrom treeTable pw w 8000 _).map _ = _
  rw [t]
  exact congrArg some (Prod.ext (congrArg Prod.snd l2) l3)
end Mine
end

section
open PySem PySem.W PySem.W.X PyProof.Rows
set_option maxRecDepth 100000
set_option maxHeartbeats 0
namespace Mine
def fwords : PySem.Str := strOf bodyM[36]?
def defParts (i : Nat) : Option (PySem.Str × Arguments × List Stmt × Scope) := match pw.main.body[i]? with
  | some (.FunctionDef n a b _ _ _ s _ _ _) => some (n, a, b, s)
  | _ => none
def methParts (i j : Nat) : Option (PySem.Str × Arguments × List Stmt × Scope) := match pw.main.body[i]? with
  | some (.ClassDef _ _ _ cb _ _ _ _ _ _ _) => (match cb[j]? with
    | some (.FunctionDef n a b _ _ _ s _ _ _) => some (n, a, b, s)
    | _ => none)
  | _ => none
abbrev fnObj {n : PySem.Str} {a : Arguments} {b : List Stmt} {s : Scope} (i : Nat) (qual : PySem.Str) (dV pm cd : Value) (od : Option Addr) (kV doc : Value) (an : Option Addr) (ct : Value) (_ : defParts i = some (n, a, b, s)) : Obj :=
  ⟨.type "function", od, .func (fnOf n qual a b s dV kV doc pm an cd ct), #[]⟩
abbrev meObj {n : PySem.Str} {a : Arguments} {b : List Stmt} {s : Scope} (i j : Nat) (qual : PySem.Str) (dV pm cd : Value) (od : Option Addr) (kV doc : Value) (an : Option Addr) (ct : Value) (_ : methParts i j = some (n, a, b, s)) : Obj :=
  ⟨.type "function", od, .func (fnOf n qual a b s dV kV doc pm an cd ct), #[]⟩
noncomputable def ob0 (P : Params) : Obj := boot_o_0 P
noncomputable def ob2 (P : Params) : Obj := { cls := .none, dict := none, data := .dict [ent P "type.__subclasses__.Exception.0" 334 (.int (97) 0), ent P "type.__subclasses__.Exception.n" 335 (.int (1) 0)].toArray 2 }
noncomputable def ob3 (P : Params) : Obj := { cls := .type "dict", dict := none, data := .dict [ent P "__name__" 165 (.str "law_pc0141_01" 891), ent P "__doc__" 166 (.none), ent P "__package__" 167 (.none), ent P "__loader__" 168 (.builtin "__main__.__loader__#opaque"), ent P "__spec__" 169 (.none), ent P "__annotations__" 170 (.ref 6), ent P "__builtins__" 171 (.ref 4), ent P "__file__" 173 (.str "/claim/cut.py" 172), ent P "__cached__" 174 (.none), ent P "_wall" 193 (.ref 21), ent P "MOST_SUBSCRIPTS" 197 (.int (7) 196), ent P "FIGURE_NAMES" 231 (.ref 22), ent P "is_part_next" 240 (.ref 29), ent P "read_subscripts" 249 (.ref 36), ent P "read_part" 259 (.ref 43), ent P "read_ref" 271 (.ref 50), ent P "read_all" 279 (.ref 57), ent P "read_figure" 286 (.ref 64), ent P "read_operand" 295 (.ref 71), ent P "LedgerError" 337 (.ref 97), ent P "TokenFault" 353 (.ref 110), ent P "GrammarFault" 369 (.ref 122), ent P "FIGURES" 373 (.str "0123456789" 372), ent P "cut_quotient" 381 (.ref 131), ent P "decimal" 390 (.ref 139), ent P "negated" 397 (.ref 146), ent P "units_at" 408 (.ref 153), ent P "is_whole" 415 (.ref 160), ent P "whole_of" 422 (.ref 167), ent P "worth_of" 431 (.ref 174), ent P "read_decimal" 444 (.ref 181), ent P "MOST_DEEP" 448 (.int (20) 447), ent P "read_expression" 455 (.ref 188), ent P "sign_among" 464 (.ref 195), ent P "read_sum" 474 (.ref 202), ent P "read_product" 484 (.ref 209), ent P "read_factor" 495 (.ref 216), ent P "is_lone_number" 504 (.ref 223), ent P "read_power" 513 (.ref 230), ent P "read_primary" 523 (.ref 237), ent P "FIGURE_WORDS" 527 (.str fwords 526), ent P "word_ahead" 537 (.ref 244), ent P "phrase_words" 544 (.ref 251), ent P "opening_length" 558 (.ref 258), ent P "body_here" 567 (.ref 265), ent P "branches_here" 580 (.ref 272), ent P "begins_operand" 587 (.ref 279), ent P "read_mode" 598 (.ref 286), ent P "read_args" 608 (.ref 293), ent P "read_call" 619 (.ref 300), ent P "Token" 665 (.ref 326), ent P "MOST_OCTET" 669 (.int (255) 668), ent P "RESERVED" 671 (.str resv 670), ent P "is_reserved" 678 (.ref 337), ent P "octets_of_text" 684 (.ref 342), ent P "Reader" 890 (.ref 511), ent P "_law_draw" 902 (.ref 522), ent P "_law_source" 908 (.ref 527), ent P "_law_A" 911 (.ref 530), ent P "_law_B" 915 (.ref 533), ent P "_law_T" 921 (.ref 538), ent P "_law_ONE" 925 (.ref 540), ent P "_law_REFS" 931 (.ref 547), ent P "_law_CONDS" 937 (.ref 554), ent P "_law_pick" 945 (.ref 561), ent P "_law_tokens" 955 (.ref 568), ent P "_law_body" 963 (.ref 575), ent P "_law_heard" 973 (.ref 582), ent P "_law_OTHERS" 988 (.ref 596), ent P "_law_read" 996 (.ref 603), ent P "_law_args" 1011 (.ref 610), ent P "law" 1028 (.ref 617)].toArray 72 }
noncomputable def ob6 (P : Params) : Obj := boot_o_6 P
noncomputable def ob20 (P : Params) : Obj := { cls := .type "code", dict := none, data := .fields [.str "_wall" 187, .str "_wall" 188, .str "/claim/cut.py" 189, .int (1) 0, .int (1) 0, .int (0) 0, .int (0) 0, .int (3) 0, .ref 15, .bool true, .int (181) 0, .ref 16, .none, .ref 17, .ref 18, .ref 19, .int (191) 0, .int (1) 0, .str "/claim/cut.py" 192].toArray, slots := #[] }
noncomputable def ob21 (P : Params) : Obj := fnObj 0 "_wall" (.none) (.str "__main__" 164) (.ref 20) none (.none) (.none) none (.none) (rfl)
noncomputable def ob22 (P : Params) : Obj := { cls := .type "dict", dict := none, data := .dict [ent P "ZERO" 198 (.str "ZERO" 199), ent P "ZEROS" 200 (.str "ZERO" 201), ent P "ZEROES" 202 (.str "ZERO" 203), ent P "SPACE" 204 (.str "SPACE" 205), ent P "SPACES" 206 (.str "SPACE" 207), ent P "HIGH-VALUE" 208 (.str "HIGH" 209), ent P "HIGH-VALUES" 210 (.str "HIGH" 211), ent P "LOW-VALUE" 212 (.str "LOW" 213), ent P "LOW-VALUES" 214 (.str "LOW" 215), ent P "QUOTE" 216 (.str "QUOTE" 217), ent P "QUOTES" 218 (.str "QUOTE" 219)].toArray 11 }
noncomputable def ob28 (P : Params) : Obj := { cls := .type "code", dict := none, data := .fields [.str "is_part_next" 232, .str "is_part_next" 233, .str "/claim/cut.py" 234, .int (7) 0, .int (1) 0, .int (0) 0, .int (0) 0, .int (3) 0, .ref 23, .bool true, .int (181) 0, .ref 24, .none, .ref 25, .ref 26, .ref 27, .int (238) 0, .int (7) 0, .str "/claim/cut.py" 239].toArray, slots := #[] }
noncomputable def ob29 (P : Params) : Obj := fnObj 4 "is_part_next" (.none) (.str "ledgerspeak.references" 194) (.ref 28) none (.none) (.none) none (.none) (rfl)
noncomputable def ob35 (P : Params) : Obj := { cls := .type "code", dict := none, data := .fields [.str "read_subscripts" 241, .str "read_subscripts" 242, .str "/claim/cut.py" 243, .int (20) 0, .int (2) 0, .int (0) 0, .int (0) 0, .int (3) 0, .ref 30, .bool true, .int (181) 0, .ref 31, .none, .ref 32, .ref 33, .ref 34, .int (247) 0, .int (20) 0, .str "/claim/cut.py" 248].toArray, slots := #[] }
noncomputable def ob36 (P : Params) : Obj := fnObj 5 "read_subscripts" (.none) (.str "ledgerspeak.references" 194) (.ref 35) none (.none) (.none) none (.none) (rfl)
noncomputable def ob42 (P : Params) : Obj := { cls := .type "code", dict := none, data := .fields [.str "read_part" 250, .str "read_part" 251, .str "/claim/cut.py" 252, .int (28) 0, .int (2) 0, .int (0) 0, .int (0) 0, .int (3) 0, .ref 37, .bool true, .int (181) 0, .ref 38, .none, .ref 39, .ref 40, .ref 41, .int (257) 0, .int (28) 0, .str "/claim/cut.py" 258].toArray, slots := #[] }
noncomputable def ob43 (P : Params) : Obj := fnObj 6 "read_part" (.none) (.str "ledgerspeak.references" 194) (.ref 42) none (.none) (.none) none (.none) (rfl)
noncomputable def ob49 (P : Params) : Obj := { cls := .type "code", dict := none, data := .fields [.str "read_ref" 260, .str "read_ref" 261, .str "/claim/cut.py" 262, .int (35) 0, .int (2) 0, .int (0) 0, .int (0) 0, .int (3) 0, .ref 44, .bool true, .int (181) 0, .ref 45, .none, .ref 46, .ref 47, .ref 48, .int (269) 0, .int (35) 0, .str "/claim/cut.py" 270].toArray, slots := #[] }
noncomputable def ob50 (P : Params) : Obj := fnObj 7 "read_ref" (.none) (.str "ledgerspeak.references" 194) (.ref 49) none (.none) (.none) none (.none) (rfl)
noncomputable def ob56 (P : Params) : Obj := { cls := .type "code", dict := none, data := .fields [.str "read_all" 272, .str "read_all" 273, .str "/claim/cut.py" 274, .int (45) 0, .int (1) 0, .int (0) 0, .int (0) 0, .int (3) 0, .ref 51, .bool true, .int (181) 0, .ref 52, .none, .ref 53, .ref 54, .ref 55, .int (277) 0, .int (45) 0, .str "/claim/cut.py" 278].toArray, slots := #[] }
noncomputable def ob57 (P : Params) : Obj := fnObj 8 "read_all" (.none) (.str "ledgerspeak.references" 194) (.ref 56) none (.none) (.none) none (.none) (rfl)
noncomputable def ob63 (P : Params) : Obj := { cls := .type "code", dict := none, data := .fields [.str "read_figure" 280, .str "read_figure" 281, .str "/claim/cut.py" 282, .int (52) 0, .int (1) 0, .int (0) 0, .int (0) 0, .int (3) 0, .ref 58, .bool true, .int (181) 0, .ref 59, .none, .ref 60, .ref 61, .ref 62, .int (284) 0, .int (52) 0, .str "/claim/cut.py" 285].toArray, slots := #[] }
noncomputable def ob64 (P : Params) : Obj := fnObj 9 "read_figure" (.none) (.str "ledgerspeak.references" 194) (.ref 63) none (.none) (.none) none (.none) (rfl)
noncomputable def ob70 (P : Params) : Obj := { cls := .type "code", dict := none, data := .fields [.str "read_operand" 287, .str "read_operand" 288, .str "/claim/cut.py" 289, .int (56) 0, .int (2) 0, .int (0) 0, .int (0) 0, .int (3) 0, .ref 65, .bool true, .int (181) 0, .ref 66, .none, .ref 67, .ref 68, .ref 69, .int (293) 0, .int (56) 0, .str "/claim/cut.py" 294].toArray, slots := #[] }
noncomputable def ob71 (P : Params) : Obj := fnObj 10 "read_operand" (.none) (.str "ledgerspeak.references" 194) (.ref 70) none (.none) (.none) none (.none) (rfl)
noncomputable def ob79 (P : Params) : Obj := { cls := .type "tuple", dict := none, data := .seq [.int (0) 310, .int (0) 311].toArray 0, slots := #[] }
noncomputable def ob80 (P : Params) : Obj := { cls := .type "tuple", dict := none, data := .seq [.ref 79].toArray 0, slots := #[] }
noncomputable def ob86 (P : Params) : Obj := { cls := .type "code", dict := none, data := .fields [.str "__init__" 312, .str "LedgerError.__init__" 313, .str "/claim/cut.py" 314, .int (68) 0, .int (3) 0, .int (0) 0, .int (0) 0, .int (3) 0, .ref 81, .bool true, .int (181) 0, .ref 82, .none, .ref 83, .ref 84, .ref 85, .int (318) 0, .int (68) 0, .str "/claim/cut.py" 319].toArray, slots := #[] }
noncomputable def ob87 (P : Params) : Obj := meObj 12 0 "LedgerError.__init__" (.ref 80) (.str "ledgerspeak.errors" 296) (.ref 86) none (.none) (.none) none (.none) (rfl)
noncomputable def ob93 (P : Params) : Obj := { cls := .type "code", dict := none, data := .fields [.str "told" 321, .str "LedgerError.told" 322, .str "/claim/cut.py" 323, .int (73) 0, .int (1) 0, .int (0) 0, .int (0) 0, .int (3) 0, .ref 88, .bool true, .int (181) 0, .ref 89, .none, .ref 90, .ref 91, .ref 92, .int (325) 0, .int (73) 0, .str "/claim/cut.py" 326].toArray, slots := #[] }
noncomputable def ob94 (P : Params) : Obj := meObj 12 1 "LedgerError.told" (.none) (.str "ledgerspeak.errors" 296) (.ref 93) none (.none) (.none) none (.none) (rfl)
noncomputable def ob96 (P : Params) : Obj := { cls := .type "dict", dict := none, data := .dict [ent P "__module__" 305 (.str "ledgerspeak.errors" 296), ent P "__firstlineno__" 309 (.int (66) 308), ent P "__init__" 320 (.ref 87), ent P "told" 327 (.ref 94), ent P "__static_attributes__" 330 (.ref 95), ent P "__weakref__" 332 (.ref 98), ent P "__doc__" 333 (.none)].toArray 3 }
noncomputable def ob97 (P : Params) : Obj := { cls := .type "type", dict := none, data := .cls { name := "LedgerError", bases := [.type "Exception"], mro := [.ref 97, .type "Exception", .type "BaseException", .type "object"], ns := 96, qualname := "LedgerError", hasDict := true, slotNames := [], subclasses := [.ref 110, .ref 122], abstract := false, collection := none, hasDel := false }, slots := #[some (.ref 72), none, some (.str "LedgerError" 298), some (.str "LedgerError" 306), some (.builtin "Exception.__new__"), some (.bool true)] }
noncomputable def ob109 (P : Params) : Obj := { cls := .type "dict", dict := none, data := .dict [ent P "__module__" 345 (.str "ledgerspeak.errors" 296), ent P "__firstlineno__" 349 (.int (75) 348), ent P "__static_attributes__" 350 (.ref 108), ent P "__doc__" 351 (.none)].toArray 2 }
noncomputable def ob110 (P : Params) : Obj := { cls := .type "type", dict := none, data := .cls { name := "TokenFault", bases := [.ref 97], mro := [.ref 110, .ref 97, .type "Exception", .type "BaseException", .type "object"], ns := 109, qualname := "TokenFault", hasDict := true, slotNames := [], subclasses := [], abstract := false, collection := none, hasDel := false }, slots := #[some (.ref 101), none, some (.str "TokenFault" 338), some (.str "TokenFault" 346), some (.builtin "Exception.__new__"), some (.bool true)] }
noncomputable def ob121 (P : Params) : Obj := { cls := .type "dict", dict := none, data := .dict [ent P "__module__" 361 (.str "ledgerspeak.errors" 296), ent P "__firstlineno__" 365 (.int (77) 364), ent P "__static_attributes__" 366 (.ref 120), ent P "__doc__" 367 (.none)].toArray 2 }
noncomputable def ob122 (P : Params) : Obj := { cls := .type "type", dict := none, data := .cls { name := "GrammarFault", bases := [.ref 97], mro := [.ref 122, .ref 97, .type "Exception", .type "BaseException", .type "object"], ns := 121, qualname := "GrammarFault", hasDict := true, slotNames := [], subclasses := [], abstract := false, collection := none, hasDel := false }, slots := #[some (.ref 113), none, some (.str "GrammarFault" 354), some (.str "GrammarFault" 362), some (.builtin "Exception.__new__"), some (.bool true)] }
noncomputable def ob130 (P : Params) : Obj := { cls := .type "code", dict := none, data := .fields [.str "cut_quotient" 374, .str "cut_quotient" 375, .str "/claim/cut.py" 376, .int (81) 0, .int (2) 0, .int (0) 0, .int (0) 0, .int (3) 0, .ref 125, .bool true, .int (181) 0, .ref 126, .none, .ref 127, .ref 128, .ref 129, .int (379) 0, .int (81) 0, .str "/claim/cut.py" 380].toArray, slots := #[] }
noncomputable def ob131 (P : Params) : Obj := fnObj 17 "cut_quotient" (.none) (.str "ledgerspeak.decimals" 370) (.ref 130) none (.none) (.none) none (.none) (rfl)
noncomputable def ob132 (P : Params) : Obj := { cls := .type "tuple", dict := none, data := .seq [.int (0) 382].toArray 0, slots := #[] }
noncomputable def ob138 (P : Params) : Obj := { cls := .type "code", dict := none, data := .fields [.str "decimal" 383, .str "decimal" 384, .str "/claim/cut.py" 385, .int (85) 0, .int (2) 0, .int (0) 0, .int (0) 0, .int (3) 0, .ref 133, .bool true, .int (181) 0, .ref 134, .none, .ref 135, .ref 136, .ref 137, .int (388) 0, .int (85) 0, .str "/claim/cut.py" 389].toArray, slots := #[] }
noncomputable def ob139 (P : Params) : Obj := fnObj 18 "decimal" (.ref 132) (.str "ledgerspeak.decimals" 370) (.ref 138) none (.none) (.none) none (.none) (rfl)
noncomputable def ob145 (P : Params) : Obj := { cls := .type "code", dict := none, data := .fields [.str "negated" 391, .str "negated" 392, .str "/claim/cut.py" 393, .int (92) 0, .int (1) 0, .int (0) 0, .int (0) 0, .int (3) 0, .ref 140, .bool true, .int (181) 0, .ref 141, .none, .ref 142, .ref 143, .ref 144, .int (395) 0, .int (92) 0, .str "/claim/cut.py" 396].toArray, slots := #[] }
noncomputable def ob146 (P : Params) : Obj := fnObj 19 "negated" (.none) (.str "ledgerspeak.decimals" 370) (.ref 145) none (.none) (.none) none (.none) (rfl)
noncomputable def ob152 (P : Params) : Obj := { cls := .type "code", dict := none, data := .fields [.str "units_at" 398, .str "units_at" 399, .str "/claim/cut.py" 400, .int (94) 0, .int (3) 0, .int (0) 0, .int (0) 0, .int (3) 0, .ref 147, .bool true, .int (181) 0, .ref 148, .none, .ref 149, .ref 150, .ref 151, .int (406) 0, .int (94) 0, .str "/claim/cut.py" 407].toArray, slots := #[] }
noncomputable def ob153 (P : Params) : Obj := fnObj 20 "units_at" (.none) (.str "ledgerspeak.decimals" 370) (.ref 152) none (.none) (.none) none (.none) (rfl)
noncomputable def ob159 (P : Params) : Obj := { cls := .type "code", dict := none, data := .fields [.str "is_whole" 409, .str "is_whole" 410, .str "/claim/cut.py" 411, .int (102) 0, .int (1) 0, .int (0) 0, .int (0) 0, .int (3) 0, .ref 154, .bool true, .int (181) 0, .ref 155, .none, .ref 156, .ref 157, .ref 158, .int (413) 0, .int (102) 0, .str "/claim/cut.py" 414].toArray, slots := #[] }
noncomputable def ob160 (P : Params) : Obj := fnObj 21 "is_whole" (.none) (.str "ledgerspeak.decimals" 370) (.ref 159) none (.none) (.none) none (.none) (rfl)
noncomputable def ob166 (P : Params) : Obj := { cls := .type "code", dict := none, data := .fields [.str "whole_of" 416, .str "whole_of" 417, .str "/claim/cut.py" 418, .int (104) 0, .int (1) 0, .int (0) 0, .int (0) 0, .int (3) 0, .ref 161, .bool true, .int (181) 0, .ref 162, .none, .ref 163, .ref 164, .ref 165, .int (420) 0, .int (104) 0, .str "/claim/cut.py" 421].toArray, slots := #[] }
noncomputable def ob167 (P : Params) : Obj := fnObj 22 "whole_of" (.none) (.str "ledgerspeak.decimals" 370) (.ref 166) none (.none) (.none) none (.none) (rfl)
noncomputable def ob173 (P : Params) : Obj := { cls := .type "code", dict := none, data := .fields [.str "worth_of" 423, .str "worth_of" 424, .str "/claim/cut.py" 425, .int (106) 0, .int (1) 0, .int (0) 0, .int (0) 0, .int (3) 0, .ref 168, .bool true, .int (181) 0, .ref 169, .none, .ref 170, .ref 171, .ref 172, .int (429) 0, .int (106) 0, .str "/claim/cut.py" 430].toArray, slots := #[] }
noncomputable def ob174 (P : Params) : Obj := fnObj 23 "worth_of" (.none) (.str "ledgerspeak.decimals" 370) (.ref 173) none (.none) (.none) none (.none) (rfl)
noncomputable def ob180 (P : Params) : Obj := { cls := .type "code", dict := none, data := .fields [.str "read_decimal" 432, .str "read_decimal" 433, .str "/claim/cut.py" 434, .int (111) 0, .int (1) 0, .int (0) 0, .int (0) 0, .int (3) 0, .ref 175, .bool true, .int (181) 0, .ref 176, .none, .ref 177, .ref 178, .ref 179, .int (442) 0, .int (111) 0, .str "/claim/cut.py" 443].toArray, slots := #[] }
noncomputable def ob181 (P : Params) : Obj := fnObj 24 "read_decimal" (.none) (.str "ledgerspeak.decimals" 370) (.ref 180) none (.none) (.none) none (.none) (rfl)
noncomputable def ob187 (P : Params) : Obj := { cls := .type "code", dict := none, data := .fields [.str "read_expression" 449, .str "read_expression" 450, .str "/claim/cut.py" 451, .int (128) 0, .int (1) 0, .int (0) 0, .int (0) 0, .int (3) 0, .ref 182, .bool true, .int (181) 0, .ref 183, .none, .ref 184, .ref 185, .ref 186, .int (453) 0, .int (128) 0, .str "/claim/cut.py" 454].toArray, slots := #[] }
noncomputable def ob188 (P : Params) : Obj := fnObj 27 "read_expression" (.none) (.str "ledgerspeak.expressions" 445) (.ref 187) none (.none) (.none) none (.none) (rfl)
noncomputable def ob194 (P : Params) : Obj := { cls := .type "code", dict := none, data := .fields [.str "sign_among" 456, .str "sign_among" 457, .str "/claim/cut.py" 458, .int (130) 0, .int (2) 0, .int (0) 0, .int (0) 0, .int (3) 0, .ref 189, .bool true, .int (181) 0, .ref 190, .none, .ref 191, .ref 192, .ref 193, .int (462) 0, .int (130) 0, .str "/claim/cut.py" 463].toArray, slots := #[] }
noncomputable def ob195 (P : Params) : Obj := fnObj 28 "sign_among" (.none) (.str "ledgerspeak.expressions" 445) (.ref 194) none (.none) (.none) none (.none) (rfl)
noncomputable def ob201 (P : Params) : Obj := { cls := .type "code", dict := none, data := .fields [.str "read_sum" 465, .str "read_sum" 466, .str "/claim/cut.py" 467, .int (135) 0, .int (2) 0, .int (0) 0, .int (0) 0, .int (3) 0, .ref 196, .bool true, .int (181) 0, .ref 197, .none, .ref 198, .ref 199, .ref 200, .int (472) 0, .int (135) 0, .str "/claim/cut.py" 473].toArray, slots := #[] }
noncomputable def ob202 (P : Params) : Obj := fnObj 29 "read_sum" (.none) (.str "ledgerspeak.expressions" 445) (.ref 201) none (.none) (.none) none (.none) (rfl)
noncomputable def ob208 (P : Params) : Obj := { cls := .type "code", dict := none, data := .fields [.str "read_product" 475, .str "read_product" 476, .str "/claim/cut.py" 477, .int (143) 0, .int (2) 0, .int (0) 0, .int (0) 0, .int (3) 0, .ref 203, .bool true, .int (181) 0, .ref 204, .none, .ref 205, .ref 206, .ref 207, .int (482) 0, .int (143) 0, .str "/claim/cut.py" 483].toArray, slots := #[] }
noncomputable def ob209 (P : Params) : Obj := fnObj 30 "read_product" (.none) (.str "ledgerspeak.expressions" 445) (.ref 208) none (.none) (.none) none (.none) (rfl)
noncomputable def ob215 (P : Params) : Obj := { cls := .type "code", dict := none, data := .fields [.str "read_factor" 485, .str "read_factor" 486, .str "/claim/cut.py" 487, .int (149) 0, .int (2) 0, .int (0) 0, .int (0) 0, .int (3) 0, .ref 210, .bool true, .int (181) 0, .ref 211, .none, .ref 212, .ref 213, .ref 214, .int (493) 0, .int (149) 0, .str "/claim/cut.py" 494].toArray, slots := #[] }
noncomputable def ob216 (P : Params) : Obj := fnObj 31 "read_factor" (.none) (.str "ledgerspeak.expressions" 445) (.ref 215) none (.none) (.none) none (.none) (rfl)
noncomputable def ob222 (P : Params) : Obj := { cls := .type "code", dict := none, data := .fields [.str "is_lone_number" 496, .str "is_lone_number" 497, .str "/claim/cut.py" 498, .int (159) 0, .int (1) 0, .int (0) 0, .int (0) 0, .int (3) 0, .ref 217, .bool true, .int (181) 0, .ref 218, .none, .ref 219, .ref 220, .ref 221, .int (502) 0, .int (159) 0, .str "/claim/cut.py" 503].toArray, slots := #[] }
noncomputable def ob223 (P : Params) : Obj := fnObj 32 "is_lone_number" (.none) (.str "ledgerspeak.expressions" 445) (.ref 222) none (.none) (.none) none (.none) (rfl)
noncomputable def ob229 (P : Params) : Obj := { cls := .type "code", dict := none, data := .fields [.str "read_power" 505, .str "read_power" 506, .str "/claim/cut.py" 507, .int (164) 0, .int (2) 0, .int (0) 0, .int (0) 0, .int (3) 0, .ref 224, .bool true, .int (181) 0, .ref 225, .none, .ref 226, .ref 227, .ref 228, .int (511) 0, .int (164) 0, .str "/claim/cut.py" 512].toArray, slots := #[] }
noncomputable def ob230 (P : Params) : Obj := fnObj 33 "read_power" (.none) (.str "ledgerspeak.expressions" 445) (.ref 229) none (.none) (.none) none (.none) (rfl)
noncomputable def ob236 (P : Params) : Obj := { cls := .type "code", dict := none, data := .fields [.str "read_primary" 514, .str "read_primary" 515, .str "/claim/cut.py" 516, .int (170) 0, .int (2) 0, .int (0) 0, .int (0) 0, .int (3) 0, .ref 231, .bool true, .int (181) 0, .ref 232, .none, .ref 233, .ref 234, .ref 235, .int (521) 0, .int (170) 0, .str "/claim/cut.py" 522].toArray, slots := #[] }
noncomputable def ob237 (P : Params) : Obj := fnObj 34 "read_primary" (.none) (.str "ledgerspeak.expressions" 445) (.ref 236) none (.none) (.none) none (.none) (rfl)
noncomputable def ob243 (P : Params) : Obj := { cls := .type "code", dict := none, data := .fields [.str "word_ahead" 528, .str "word_ahead" 529, .str "/claim/cut.py" 530, .int (180) 0, .int (3) 0, .int (0) 0, .int (0) 0, .int (3) 0, .ref 238, .bool true, .int (181) 0, .ref 239, .none, .ref 240, .ref 241, .ref 242, .int (535) 0, .int (180) 0, .str "/claim/cut.py" 536].toArray, slots := #[] }
noncomputable def ob244 (P : Params) : Obj := fnObj 37 "word_ahead" (.none) (.str "ledgerspeak.readarith" 524) (.ref 243) none (.none) (.none) none (.none) (rfl)
noncomputable def ob250 (P : Params) : Obj := { cls := .type "code", dict := none, data := .fields [.str "phrase_words" 538, .str "phrase_words" 539, .str "/claim/cut.py" 540, .int (183) 0, .int (1) 0, .int (0) 0, .int (0) 0, .int (3) 0, .ref 245, .bool true, .int (181) 0, .ref 246, .none, .ref 247, .ref 248, .ref 249, .int (542) 0, .int (183) 0, .str "/claim/cut.py" 543].toArray, slots := #[] }
noncomputable def ob251 (P : Params) : Obj := fnObj 38 "phrase_words" (.none) (.str "ledgerspeak.readarith" 524) (.ref 250) none (.none) (.none) none (.none) (rfl)
noncomputable def ob257 (P : Params) : Obj := { cls := .type "code", dict := none, data := .fields [.str "opening_length" 545, .str "opening_length" 546, .str "/claim/cut.py" 547, .int (193) 0, .int (2) 0, .int (0) 0, .int (0) 0, .int (3) 0, .ref 252, .bool true, .int (181) 0, .ref 253, .none, .ref 254, .ref 255, .ref 256, .int (556) 0, .int (193) 0, .str "/claim/cut.py" 557].toArray, slots := #[] }
noncomputable def ob258 (P : Params) : Obj := fnObj 39 "opening_length" (.none) (.str "ledgerspeak.readarith" 524) (.ref 257) none (.none) (.none) none (.none) (rfl)
noncomputable def ob264 (P : Params) : Obj := { cls := .type "code", dict := none, data := .fields [.str "body_here" 559, .str "body_here" 560, .str "/claim/cut.py" 561, .int (213) 0, .int (2) 0, .int (0) 0, .int (0) 0, .int (3) 0, .ref 259, .bool true, .int (181) 0, .ref 260, .none, .ref 261, .ref 262, .ref 263, .int (565) 0, .int (213) 0, .str "/claim/cut.py" 566].toArray, slots := #[] }
noncomputable def ob265 (P : Params) : Obj := fnObj 40 "body_here" (.none) (.str "ledgerspeak.readarith" 524) (.ref 264) none (.none) (.none) none (.none) (rfl)
noncomputable def ob271 (P : Params) : Obj := { cls := .type "code", dict := none, data := .fields [.str "branches_here" 568, .str "branches_here" 569, .str "/claim/cut.py" 570, .int (218) 0, .int (3) 0, .int (0) 0, .int (0) 0, .int (3) 0, .ref 266, .bool true, .int (181) 0, .ref 267, .none, .ref 268, .ref 269, .ref 270, .int (578) 0, .int (218) 0, .str "/claim/cut.py" 579].toArray, slots := #[] }
noncomputable def ob272 (P : Params) : Obj := fnObj 41 "branches_here" (.none) (.str "ledgerspeak.readarith" 524) (.ref 271) none (.none) (.none) none (.none) (rfl)
noncomputable def ob278 (P : Params) : Obj := { cls := .type "code", dict := none, data := .fields [.str "begins_operand" 581, .str "begins_operand" 582, .str "/claim/cut.py" 583, .int (227) 0, .int (1) 0, .int (0) 0, .int (0) 0, .int (3) 0, .ref 273, .bool true, .int (181) 0, .ref 274, .none, .ref 275, .ref 276, .ref 277, .int (585) 0, .int (227) 0, .str "/claim/cut.py" 586].toArray, slots := #[] }
noncomputable def ob279 (P : Params) : Obj := fnObj 42 "begins_operand" (.none) (.str "ledgerspeak.readarith" 524) (.ref 278) none (.none) (.none) none (.none) (rfl)
noncomputable def ob285 (P : Params) : Obj := { cls := .type "code", dict := none, data := .fields [.str "read_mode" 590, .str "read_mode" 591, .str "/claim/cut.py" 592, .int (232) 0, .int (2) 0, .int (0) 0, .int (0) 0, .int (3) 0, .ref 280, .bool true, .int (181) 0, .ref 281, .none, .ref 282, .ref 283, .ref 284, .int (596) 0, .int (232) 0, .str "/claim/cut.py" 597].toArray, slots := #[] }
noncomputable def ob286 (P : Params) : Obj := fnObj 44 "read_mode" (.none) (.str "ledgerspeak.readflow" 588) (.ref 285) none (.none) (.none) none (.none) (rfl)
noncomputable def ob292 (P : Params) : Obj := { cls := .type "code", dict := none, data := .fields [.str "read_args" 599, .str "read_args" 600, .str "/claim/cut.py" 601, .int (241) 0, .int (1) 0, .int (0) 0, .int (0) 0, .int (3) 0, .ref 287, .bool true, .int (181) 0, .ref 288, .none, .ref 289, .ref 290, .ref 291, .int (606) 0, .int (241) 0, .str "/claim/cut.py" 607].toArray, slots := #[] }
noncomputable def ob293 (P : Params) : Obj := fnObj 45 "read_args" (.none) (.str "ledgerspeak.readflow" 588) (.ref 292) none (.none) (.none) none (.none) (rfl)
noncomputable def ob299 (P : Params) : Obj := { cls := .type "code", dict := none, data := .fields [.str "read_call" 609, .str "read_call" 610, .str "/claim/cut.py" 611, .int (254) 0, .int (2) 0, .int (0) 0, .int (0) 0, .int (3) 0, .ref 294, .bool true, .int (181) 0, .ref 295, .none, .ref 296, .ref 297, .ref 298, .int (617) 0, .int (254) 0, .str "/claim/cut.py" 618].toArray, slots := #[] }
noncomputable def ob300 (P : Params) : Obj := fnObj 46 "read_call" (.none) (.str "ledgerspeak.readflow" 588) (.ref 299) none (.none) (.none) none (.none) (rfl)
noncomputable def ob308 (P : Params) : Obj := { cls := .type "tuple", dict := none, data := .seq [.int (0) 634, .int (0) 635].toArray 0, slots := #[] }
noncomputable def ob309 (P : Params) : Obj := { cls := .type "tuple", dict := none, data := .seq [.ref 308, .bool false].toArray 0, slots := #[] }
noncomputable def ob315 (P : Params) : Obj := { cls := .type "code", dict := none, data := .fields [.str "__init__" 636, .str "Token.__init__" 637, .str "/claim/cut.py" 638, .int (264) 0, .int (5) 0, .int (0) 0, .int (0) 0, .int (3) 0, .ref 310, .bool true, .int (181) 0, .ref 311, .none, .ref 312, .ref 313, .ref 314, .int (644) 0, .int (264) 0, .str "/claim/cut.py" 645].toArray, slots := #[] }
noncomputable def ob316 (P : Params) : Obj := meObj 48 0 "Token.__init__" (.ref 309) (.str "ledgerspeak.tokens" 620) (.ref 315) none (.none) (.none) none (.none) (rfl)
noncomputable def ob322 (P : Params) : Obj := { cls := .type "code", dict := none, data := .fields [.str "told" 647, .str "Token.told" 648, .str "/claim/cut.py" 649, .int (270) 0, .int (1) 0, .int (0) 0, .int (0) 0, .int (3) 0, .ref 317, .bool true, .int (181) 0, .ref 318, .none, .ref 319, .ref 320, .ref 321, .int (651) 0, .int (270) 0, .str "/claim/cut.py" 652].toArray, slots := #[] }
noncomputable def ob323 (P : Params) : Obj := meObj 48 1 "Token.told" (.none) (.str "ledgerspeak.tokens" 620) (.ref 322) none (.none) (.none) none (.none) (rfl)
noncomputable def ob325 (P : Params) : Obj := { cls := .type "dict", dict := none, data := .dict [ent P "__module__" 629 (.str "ledgerspeak.tokens" 620), ent P "__firstlineno__" 633 (.int (262) 632), ent P "__init__" 646 (.ref 316), ent P "told" 653 (.ref 323), ent P "__static_attributes__" 658 (.ref 324), ent P "__dict__" 660 (.ref 327), ent P "__weakref__" 662 (.ref 328), ent P "__doc__" 663 (.none)].toArray 4 }
noncomputable def ob326 (P : Params) : Obj := { cls := .type "type", dict := none, data := .cls { name := "Token", bases := [.type "object"], mro := [.ref 326, .type "object"], ns := 325, qualname := "Token", hasDict := true, slotNames := [], subclasses := [], abstract := false, collection := none, hasDel := false }, slots := #[none, none, some (.str "Token" 622), some (.str "Token" 630), some (.builtin "object.__new__"), some (.bool true)] }
noncomputable def ob336 (P : Params) : Obj := { cls := .type "code", dict := none, data := .fields [.str "is_reserved" 672, .str "is_reserved" 673, .str "/claim/cut.py" 674, .int (275) 0, .int (1) 0, .int (0) 0, .int (0) 0, .int (3) 0, .ref 331, .bool true, .int (181) 0, .ref 332, .none, .ref 333, .ref 334, .ref 335, .int (676) 0, .int (275) 0, .str "/claim/cut.py" 677].toArray, slots := #[] }
noncomputable def ob337 (P : Params) : Obj := fnObj 52 "is_reserved" (.none) (.str "ledgerspeak.reader" 666) (.ref 336) none (.none) (.none) none (.none) (rfl)
noncomputable def ob341 (P : Params) : Obj := { cls := .type "code", dict := none, data := .fields [.str "octets_of_text" 679, .str "octets_of_text" 680, .str "/claim/cut.py" 681, .int (277) 0, .int (1) 0, .int (0) 0, .int (0) 0, .int (3) 0, .ref 338, .bool true, .int (181) 0, .ref 339, .none, .none, .none, .ref 340, .int (682) 0, .int (277) 0, .str "/claim/cut.py" 683].toArray, slots := #[] }
noncomputable def ob342 (P : Params) : Obj := fnObj 53 "octets_of_text" (.none) (.str "ledgerspeak.reader" 666) (.ref 341) none (.none) (.none) none (.none) (rfl)
noncomputable def ob350 (P : Params) : Obj := { cls := .type "tuple", dict := none, data := .seq [.int (0) 697].toArray 0, slots := #[] }
noncomputable def ob356 (P : Params) : Obj := { cls := .type "code", dict := none, data := .fields [.str "__init__" 698, .str "Reader.__init__" 699, .str "/claim/cut.py" 700, .int (284) 0, .int (3) 0, .int (0) 0, .int (0) 0, .int (3) 0, .ref 351, .bool true, .int (181) 0, .ref 352, .none, .ref 353, .ref 354, .ref 355, .int (704) 0, .int (284) 0, .str "/claim/cut.py" 705].toArray, slots := #[] }
noncomputable def ob357 (P : Params) : Obj := meObj 54 0 "Reader.__init__" (.ref 350) (.str "ledgerspeak.reader" 666) (.ref 356) none (.none) (.none) none (.none) (rfl)
noncomputable def ob358 (P : Params) : Obj := { cls := .type "tuple", dict := none, data := .seq [.int (0) 707].toArray 0, slots := #[] }
noncomputable def ob364 (P : Params) : Obj := { cls := .type "code", dict := none, data := .fields [.str "peek" 708, .str "Reader.peek" 709, .str "/claim/cut.py" 710, .int (289) 0, .int (2) 0, .int (0) 0, .int (0) 0, .int (3) 0, .ref 359, .bool true, .int (181) 0, .ref 360, .none, .ref 361, .ref 362, .ref 363, .int (713) 0, .int (289) 0, .str "/claim/cut.py" 714].toArray, slots := #[] }
noncomputable def ob365 (P : Params) : Obj := meObj 54 1 "Reader.peek" (.ref 358) (.str "ledgerspeak.reader" 666) (.ref 364) none (.none) (.none) none (.none) (rfl)
noncomputable def ob371 (P : Params) : Obj := { cls := .type "code", dict := none, data := .fields [.str "is_done" 716, .str "Reader.is_done" 717, .str "/claim/cut.py" 718, .int (294) 0, .int (1) 0, .int (0) 0, .int (0) 0, .int (3) 0, .ref 366, .bool true, .int (181) 0, .ref 367, .none, .ref 368, .ref 369, .ref 370, .int (720) 0, .int (294) 0, .str "/claim/cut.py" 721].toArray, slots := #[] }
noncomputable def ob372 (P : Params) : Obj := meObj 54 2 "Reader.is_done" (.none) (.str "ledgerspeak.reader" 666) (.ref 371) none (.none) (.none) none (.none) (rfl)
noncomputable def ob378 (P : Params) : Obj := { cls := .type "code", dict := none, data := .fields [.str "fault" 723, .str "Reader.fault" 724, .str "/claim/cut.py" 725, .int (297) 0, .int (2) 0, .int (0) 0, .int (0) 0, .int (3) 0, .ref 373, .bool true, .int (181) 0, .ref 374, .none, .ref 375, .ref 376, .ref 377, .int (728) 0, .int (297) 0, .str "/claim/cut.py" 729].toArray, slots := #[] }
noncomputable def ob379 (P : Params) : Obj := meObj 54 3 "Reader.fault" (.none) (.str "ledgerspeak.reader" 666) (.ref 378) none (.none) (.none) none (.none) (rfl)
noncomputable def ob385 (P : Params) : Obj := { cls := .type "code", dict := none, data := .fields [.str "take" 731, .str "Reader.take" 732, .str "/claim/cut.py" 733, .int (302) 0, .int (1) 0, .int (0) 0, .int (0) 0, .int (3) 0, .ref 380, .bool true, .int (181) 0, .ref 381, .none, .ref 382, .ref 383, .ref 384, .int (736) 0, .int (302) 0, .str "/claim/cut.py" 737].toArray, slots := #[] }
noncomputable def ob386 (P : Params) : Obj := meObj 54 4 "Reader.take" (.none) (.str "ledgerspeak.reader" 666) (.ref 385) none (.none) (.none) none (.none) (rfl)
noncomputable def ob387 (P : Params) : Obj := { cls := .type "tuple", dict := none, data := .seq [.int (0) 739].toArray 0, slots := #[] }
noncomputable def ob393 (P : Params) : Obj := { cls := .type "code", dict := none, data := .fields [.str "is_kind" 740, .str "Reader.is_kind" 741, .str "/claim/cut.py" 742, .int (309) 0, .int (3) 0, .int (0) 0, .int (0) 0, .int (3) 0, .ref 388, .bool true, .int (181) 0, .ref 389, .none, .ref 390, .ref 391, .ref 392, .int (747) 0, .int (309) 0, .str "/claim/cut.py" 748].toArray, slots := #[] }
noncomputable def ob394 (P : Params) : Obj := meObj 54 5 "Reader.is_kind" (.ref 387) (.str "ledgerspeak.reader" 666) (.ref 393) none (.none) (.none) none (.none) (rfl)
noncomputable def ob400 (P : Params) : Obj := { cls := .type "code", dict := none, data := .fields [.str "is_word" 750, .str "Reader.is_word" 751, .str "/claim/cut.py" 752, .int (313) 0, .int (2) 0, .int (0) 0, .int (0) 0, .int (3) 0, .ref 395, .bool true, .int (181) 0, .ref 396, .none, .ref 397, .ref 398, .ref 399, .int (757) 0, .int (313) 0, .str "/claim/cut.py" 758].toArray, slots := #[] }
noncomputable def ob401 (P : Params) : Obj := meObj 54 6 "Reader.is_word" (.none) (.str "ledgerspeak.reader" 666) (.ref 400) none (.none) (.none) none (.none) (rfl)
noncomputable def ob407 (P : Params) : Obj := { cls := .type "code", dict := none, data := .fields [.str "skip" 760, .str "Reader.skip" 761, .str "/claim/cut.py" 762, .int (321) 0, .int (2) 0, .int (0) 0, .int (0) 0, .int (3) 0, .ref 402, .bool true, .int (181) 0, .ref 403, .none, .ref 404, .ref 405, .ref 406, .int (765) 0, .int (321) 0, .str "/claim/cut.py" 766].toArray, slots := #[] }
noncomputable def ob408 (P : Params) : Obj := meObj 54 7 "Reader.skip" (.none) (.str "ledgerspeak.reader" 666) (.ref 407) none (.none) (.none) none (.none) (rfl)
noncomputable def ob414 (P : Params) : Obj := { cls := .type "code", dict := none, data := .fields [.str "need" 768, .str "Reader.need" 769, .str "/claim/cut.py" 770, .int (327) 0, .int (2) 0, .int (0) 0, .int (0) 0, .int (3) 0, .ref 409, .bool true, .int (181) 0, .ref 410, .none, .ref 411, .ref 412, .ref 413, .int (773) 0, .int (327) 0, .str "/claim/cut.py" 774].toArray, slots := #[] }
noncomputable def ob415 (P : Params) : Obj := meObj 54 8 "Reader.need" (.none) (.str "ledgerspeak.reader" 666) (.ref 414) none (.none) (.none) none (.none) (rfl)
noncomputable def ob421 (P : Params) : Obj := { cls := .type "code", dict := none, data := .fields [.str "one_of" 776, .str "Reader.one_of" 777, .str "/claim/cut.py" 778, .int (331) 0, .int (2) 0, .int (0) 0, .int (0) 0, .int (3) 0, .ref 416, .bool true, .int (181) 0, .ref 417, .none, .ref 418, .ref 419, .ref 420, .int (782) 0, .int (331) 0, .str "/claim/cut.py" 783].toArray, slots := #[] }
noncomputable def ob422 (P : Params) : Obj := meObj 54 9 "Reader.one_of" (.none) (.str "ledgerspeak.reader" 666) (.ref 421) none (.none) (.none) none (.none) (rfl)
noncomputable def ob428 (P : Params) : Obj := { cls := .type "code", dict := none, data := .fields [.str "word" 785, .str "Reader.word" 786, .str "/claim/cut.py" 787, .int (337) 0, .int (1) 0, .int (0) 0, .int (0) 0, .int (3) 0, .ref 423, .bool true, .int (181) 0, .ref 424, .none, .ref 425, .ref 426, .ref 427, .int (789) 0, .int (337) 0, .str "/claim/cut.py" 790].toArray, slots := #[] }
noncomputable def ob429 (P : Params) : Obj := meObj 54 10 "Reader.word" (.none) (.str "ledgerspeak.reader" 666) (.ref 428) none (.none) (.none) none (.none) (rfl)
noncomputable def ob430 (P : Params) : Obj := { cls := .type "tuple", dict := none, data := .seq [.int (0) 792].toArray 0, slots := #[] }
noncomputable def ob436 (P : Params) : Obj := { cls := .type "code", dict := none, data := .fields [.str "is_name" 793, .str "Reader.is_name" 794, .str "/claim/cut.py" 795, .int (342) 0, .int (2) 0, .int (0) 0, .int (0) 0, .int (3) 0, .ref 431, .bool true, .int (181) 0, .ref 432, .none, .ref 433, .ref 434, .ref 435, .int (798) 0, .int (342) 0, .str "/claim/cut.py" 799].toArray, slots := #[] }
noncomputable def ob437 (P : Params) : Obj := meObj 54 11 "Reader.is_name" (.ref 430) (.str "ledgerspeak.reader" 666) (.ref 436) none (.none) (.none) none (.none) (rfl)
noncomputable def ob443 (P : Params) : Obj := { cls := .type "code", dict := none, data := .fields [.str "name" 801, .str "Reader.name" 802, .str "/claim/cut.py" 803, .int (345) 0, .int (1) 0, .int (0) 0, .int (0) 0, .int (3) 0, .ref 438, .bool true, .int (181) 0, .ref 439, .none, .ref 440, .ref 441, .ref 442, .int (805) 0, .int (345) 0, .str "/claim/cut.py" 806].toArray, slots := #[] }
noncomputable def ob444 (P : Params) : Obj := meObj 54 12 "Reader.name" (.none) (.str "ledgerspeak.reader" 666) (.ref 443) none (.none) (.none) none (.none) (rfl)
noncomputable def ob450 (P : Params) : Obj := { cls := .type "code", dict := none, data := .fields [.str "names" 808, .str "Reader.names" 809, .str "/claim/cut.py" 810, .int (350) 0, .int (1) 0, .int (0) 0, .int (0) 0, .int (3) 0, .ref 445, .bool true, .int (181) 0, .ref 446, .none, .ref 447, .ref 448, .ref 449, .int (812) 0, .int (350) 0, .str "/claim/cut.py" 813].toArray, slots := #[] }
noncomputable def ob451 (P : Params) : Obj := meObj 54 13 "Reader.names" (.none) (.str "ledgerspeak.reader" 666) (.ref 450) none (.none) (.none) none (.none) (rfl)
noncomputable def ob452 (P : Params) : Obj := { cls := .type "tuple", dict := none, data := .seq [.int (0) 815].toArray 0, slots := #[] }
noncomputable def ob458 (P : Params) : Obj := { cls := .type "code", dict := none, data := .fields [.str "is_sign" 816, .str "Reader.is_sign" 817, .str "/claim/cut.py" 818, .int (353) 0, .int (3) 0, .int (0) 0, .int (0) 0, .int (3) 0, .ref 453, .bool true, .int (181) 0, .ref 454, .none, .ref 455, .ref 456, .ref 457, .int (822) 0, .int (353) 0, .str "/claim/cut.py" 823].toArray, slots := #[] }
noncomputable def ob459 (P : Params) : Obj := meObj 54 14 "Reader.is_sign" (.ref 452) (.str "ledgerspeak.reader" 666) (.ref 458) none (.none) (.none) none (.none) (rfl)
noncomputable def ob465 (P : Params) : Obj := { cls := .type "code", dict := none, data := .fields [.str "skip_sign" 825, .str "Reader.skip_sign" 826, .str "/claim/cut.py" 827, .int (356) 0, .int (2) 0, .int (0) 0, .int (0) 0, .int (3) 0, .ref 460, .bool true, .int (181) 0, .ref 461, .none, .ref 462, .ref 463, .ref 464, .int (830) 0, .int (356) 0, .str "/claim/cut.py" 831].toArray, slots := #[] }
noncomputable def ob466 (P : Params) : Obj := meObj 54 15 "Reader.skip_sign" (.none) (.str "ledgerspeak.reader" 666) (.ref 465) none (.none) (.none) none (.none) (rfl)
noncomputable def ob472 (P : Params) : Obj := { cls := .type "code", dict := none, data := .fields [.str "need_sign" 833, .str "Reader.need_sign" 834, .str "/claim/cut.py" 835, .int (362) 0, .int (2) 0, .int (0) 0, .int (0) 0, .int (3) 0, .ref 467, .bool true, .int (181) 0, .ref 468, .none, .ref 469, .ref 470, .ref 471, .int (838) 0, .int (362) 0, .str "/claim/cut.py" 839].toArray, slots := #[] }
noncomputable def ob473 (P : Params) : Obj := meObj 54 16 "Reader.need_sign" (.none) (.str "ledgerspeak.reader" 666) (.ref 472) none (.none) (.none) none (.none) (rfl)
noncomputable def ob479 (P : Params) : Obj := { cls := .type "code", dict := none, data := .fields [.str "is_number" 841, .str "Reader.is_number" 842, .str "/claim/cut.py" 843, .int (366) 0, .int (1) 0, .int (0) 0, .int (0) 0, .int (3) 0, .ref 474, .bool true, .int (181) 0, .ref 475, .none, .ref 476, .ref 477, .ref 478, .int (845) 0, .int (366) 0, .str "/claim/cut.py" 846].toArray, slots := #[] }
noncomputable def ob480 (P : Params) : Obj := meObj 54 17 "Reader.is_number" (.none) (.str "ledgerspeak.reader" 666) (.ref 479) none (.none) (.none) none (.none) (rfl)
noncomputable def ob486 (P : Params) : Obj := { cls := .type "code", dict := none, data := .fields [.str "signed" 848, .str "Reader.signed" 849, .str "/claim/cut.py" 850, .int (371) 0, .int (1) 0, .int (0) 0, .int (0) 0, .int (3) 0, .ref 481, .bool true, .int (181) 0, .ref 482, .none, .ref 483, .ref 484, .ref 485, .int (854) 0, .int (371) 0, .str "/claim/cut.py" 855].toArray, slots := #[] }
noncomputable def ob487 (P : Params) : Obj := meObj 54 18 "Reader.signed" (.none) (.str "ledgerspeak.reader" 666) (.ref 486) none (.none) (.none) none (.none) (rfl)
noncomputable def ob493 (P : Params) : Obj := { cls := .type "code", dict := none, data := .fields [.str "whole" 857, .str "Reader.whole" 858, .str "/claim/cut.py" 859, .int (380) 0, .int (1) 0, .int (0) 0, .int (0) 0, .int (3) 0, .ref 488, .bool true, .int (181) 0, .ref 489, .none, .ref 490, .ref 491, .ref 492, .int (862) 0, .int (380) 0, .str "/claim/cut.py" 863].toArray, slots := #[] }
noncomputable def ob494 (P : Params) : Obj := meObj 54 19 "Reader.whole" (.none) (.str "ledgerspeak.reader" 666) (.ref 493) none (.none) (.none) none (.none) (rfl)
noncomputable def ob500 (P : Params) : Obj := { cls := .type "code", dict := none, data := .fields [.str "literal" 865, .str "Reader.literal" 866, .str "/claim/cut.py" 867, .int (389) 0, .int (1) 0, .int (0) 0, .int (0) 0, .int (3) 0, .ref 495, .bool true, .int (181) 0, .ref 496, .none, .ref 497, .ref 498, .ref 499, .int (869) 0, .int (389) 0, .str "/claim/cut.py" 870].toArray, slots := #[] }
noncomputable def ob501 (P : Params) : Obj := meObj 54 20 "Reader.literal" (.none) (.str "ledgerspeak.reader" 666) (.ref 500) none (.none) (.none) none (.none) (rfl)
noncomputable def ob507 (P : Params) : Obj := { cls := .type "code", dict := none, data := .fields [.str "octets" 872, .str "Reader.octets" 873, .str "/claim/cut.py" 874, .int (394) 0, .int (1) 0, .int (0) 0, .int (0) 0, .int (3) 0, .ref 502, .bool true, .int (181) 0, .ref 503, .none, .ref 504, .ref 505, .ref 506, .int (877) 0, .int (394) 0, .str "/claim/cut.py" 878].toArray, slots := #[] }
noncomputable def ob508 (P : Params) : Obj := meObj 54 21 "Reader.octets" (.none) (.str "ledgerspeak.reader" 666) (.ref 507) none (.none) (.none) none (.none) (rfl)
noncomputable def ob510 (P : Params) : Obj := { cls := .type "dict", dict := none, data := .dict [ent P "__module__" 692 (.str "ledgerspeak.reader" 666), ent P "__firstlineno__" 696 (.int (282) 695), ent P "__init__" 706 (.ref 357), ent P "peek" 715 (.ref 365), ent P "is_done" 722 (.ref 372), ent P "fault" 730 (.ref 379), ent P "take" 738 (.ref 386), ent P "is_kind" 749 (.ref 394), ent P "is_word" 759 (.ref 401), ent P "skip" 767 (.ref 408), ent P "need" 775 (.ref 415), ent P "one_of" 784 (.ref 422), ent P "word" 791 (.ref 429), ent P "is_name" 800 (.ref 437), ent P "name" 807 (.ref 444), ent P "names" 814 (.ref 451), ent P "is_sign" 824 (.ref 459), ent P "skip_sign" 832 (.ref 466), ent P "need_sign" 840 (.ref 473), ent P "is_number" 847 (.ref 480), ent P "signed" 856 (.ref 487), ent P "whole" 864 (.ref 494), ent P "literal" 871 (.ref 501), ent P "octets" 879 (.ref 508), ent P "__static_attributes__" 883 (.ref 509), ent P "__dict__" 885 (.ref 512), ent P "__weakref__" 887 (.ref 513), ent P "__doc__" 888 (.none)].toArray 4 }
noncomputable def ob511 (P : Params) : Obj := { cls := .type "type", dict := none, data := .cls { name := "Reader", bases := [.type "object"], mro := [.ref 511, .type "object"], ns := 510, qualname := "Reader", hasDict := true, slotNames := [], subclasses := [], abstract := false, collection := none, hasDel := false }, slots := #[none, none, some (.str "Reader" 685), some (.str "Reader" 693), some (.builtin "object.__new__"), some (.bool true)] }
noncomputable def ob521 (P : Params) : Obj := { cls := .type "code", dict := none, data := .fields [.str "_law_draw" 893, .str "_law_draw" 894, .str "/claim/cut.py" 895, .int (403) 0, .int (2) 0, .int (0) 0, .int (0) 0, .int (3) 0, .ref 516, .bool true, .int (181) 0, .ref 517, .none, .ref 518, .ref 519, .ref 520, .int (900) 0, .int (403) 0, .str "/claim/cut.py" 901].toArray, slots := #[] }
noncomputable def ob522 (P : Params) : Obj := fnObj 56 "_law_draw" (.none) (.str "law_pc0141_01" 891) (.ref 521) none (.none) (.none) none (.none) (rfl)
noncomputable def ob526 (P : Params) : Obj := { cls := .type "code", dict := none, data := .fields [.str "_law_source" 903, .str "_law_source" 904, .str "/claim/cut.py" 905, .int (408) 0, .int (1) 0, .int (0) 0, .int (0) 0, .int (3) 0, .ref 523, .bool true, .int (181) 0, .ref 524, .none, .none, .none, .ref 525, .int (906) 0, .int (408) 0, .str "/claim/cut.py" 907].toArray, slots := #[] }
noncomputable def ob527 (P : Params) : Obj := fnObj 57 "_law_source" (.none) (.str "law_pc0141_01" 891) (.ref 526) none (.none) (.none) none (.none) (rfl)
noncomputable def ob528 (P : Params) : Obj := { cls := .type "tuple", dict := none, data := .seq [].toArray 0, slots := #[] }
noncomputable def ob529 (P : Params) : Obj := { cls := .type "tuple", dict := none, data := .seq [].toArray 0, slots := #[] }
noncomputable def ob530 (P : Params) : Obj := { cls := .type "tuple", dict := none, data := .seq [.str "ref" 909, .str "A" 910, .ref 528, .ref 529, .none].toArray 0, slots := #[] }
noncomputable def ob531 (P : Params) : Obj := { cls := .type "tuple", dict := none, data := .seq [.str "C" 914].toArray 0, slots := #[] }
noncomputable def ob532 (P : Params) : Obj := { cls := .type "tuple", dict := none, data := .seq [].toArray 0, slots := #[] }
noncomputable def ob533 (P : Params) : Obj := { cls := .type "tuple", dict := none, data := .seq [.str "ref" 912, .str "B" 913, .ref 531, .ref 532, .none].toArray 0, slots := #[] }
noncomputable def ob534 (P : Params) : Obj := { cls := .type "tuple", dict := none, data := .seq [].toArray 0, slots := #[] }
noncomputable def ob535 (P : Params) : Obj := { cls := .type "tuple", dict := none, data := .seq [.int (2) 919, .int (0) 920].toArray 0, slots := #[] }
noncomputable def ob536 (P : Params) : Obj := { cls := .type "tuple", dict := none, data := .seq [.str "number" 918, .ref 535].toArray 0, slots := #[] }
noncomputable def ob537 (P : Params) : Obj := { cls := .type "tuple", dict := none, data := .seq [.ref 536].toArray 0, slots := #[] }
noncomputable def ob538 (P : Params) : Obj := { cls := .type "tuple", dict := none, data := .seq [.str "ref" 916, .str "T" 917, .ref 534, .ref 537, .none].toArray 0, slots := #[] }
noncomputable def ob539 (P : Params) : Obj := { cls := .type "tuple", dict := none, data := .seq [.int (1) 923, .int (0) 924].toArray 0, slots := #[] }
noncomputable def ob540 (P : Params) : Obj := { cls := .type "tuple", dict := none, data := .seq [.str "number" 922, .ref 539].toArray 0, slots := #[] }
noncomputable def ob546 (P : Params) : Obj := { cls := .type "code", dict := none, data := .fields [.str "_law_REFS" 926, .str "_law_REFS" 927, .str "/claim/cut.py" 928, .int (415) 0, .int (0) 0, .int (0) 0, .int (0) 0, .int (3) 0, .ref 541, .bool true, .int (181) 0, .ref 542, .none, .ref 543, .ref 544, .ref 545, .int (929) 0, .int (415) 0, .str "/claim/cut.py" 930].toArray, slots := #[] }
noncomputable def ob547 (P : Params) : Obj := fnObj 62 "_law_REFS" (.none) (.str "law_pc0141_01" 891) (.ref 546) none (.none) (.none) none (.none) (rfl)
noncomputable def ob553 (P : Params) : Obj := { cls := .type "code", dict := none, data := .fields [.str "_law_CONDS" 932, .str "_law_CONDS" 933, .str "/claim/cut.py" 934, .int (417) 0, .int (0) 0, .int (0) 0, .int (0) 0, .int (3) 0, .ref 548, .bool true, .int (181) 0, .ref 549, .none, .ref 550, .ref 551, .ref 552, .int (935) 0, .int (417) 0, .str "/claim/cut.py" 936].toArray, slots := #[] }
noncomputable def ob554 (P : Params) : Obj := fnObj 63 "_law_CONDS" (.none) (.str "law_pc0141_01" 891) (.ref 553) none (.none) (.none) none (.none) (rfl)
noncomputable def ob560 (P : Params) : Obj := { cls := .type "code", dict := none, data := .fields [.str "_law_pick" 938, .str "_law_pick" 939, .str "/claim/cut.py" 940, .int (419) 0, .int (2) 0, .int (0) 0, .int (0) 0, .int (3) 0, .ref 555, .bool true, .int (181) 0, .ref 556, .none, .ref 557, .ref 558, .ref 559, .int (943) 0, .int (419) 0, .str "/claim/cut.py" 944].toArray, slots := #[] }
noncomputable def ob561 (P : Params) : Obj := fnObj 64 "_law_pick" (.none) (.str "law_pc0141_01" 891) (.ref 560) none (.none) (.none) none (.none) (rfl)
noncomputable def ob567 (P : Params) : Obj := { cls := .type "code", dict := none, data := .fields [.str "_law_tokens" 946, .str "_law_tokens" 947, .str "/claim/cut.py" 948, .int (421) 0, .int (1) 0, .int (0) 0, .int (0) 0, .int (3) 0, .ref 562, .bool true, .int (181) 0, .ref 563, .none, .ref 564, .ref 565, .ref 566, .int (953) 0, .int (421) 0, .str "/claim/cut.py" 954].toArray, slots := #[] }
noncomputable def ob568 (P : Params) : Obj := fnObj 65 "_law_tokens" (.none) (.str "law_pc0141_01" 891) (.ref 567) none (.none) (.none) none (.none) (rfl)
noncomputable def ob574 (P : Params) : Obj := { cls := .type "code", dict := none, data := .fields [.str "_law_body" 956, .str "_law_body" 957, .str "/claim/cut.py" 958, .int (428) 0, .int (1) 0, .int (0) 0, .int (0) 0, .int (3) 0, .ref 569, .bool true, .int (181) 0, .ref 570, .none, .ref 571, .ref 572, .ref 573, .int (961) 0, .int (428) 0, .str "/claim/cut.py" 962].toArray, slots := #[] }
noncomputable def ob575 (P : Params) : Obj := fnObj 66 "_law_body" (.none) (.str "law_pc0141_01" 891) (.ref 574) none (.none) (.none) none (.none) (rfl)
noncomputable def ob581 (P : Params) : Obj := { cls := .type "code", dict := none, data := .fields [.str "_law_heard" 964, .str "_law_heard" 965, .str "/claim/cut.py" 966, .int (433) 0, .int (2) 0, .int (0) 0, .int (0) 0, .int (3) 0, .ref 576, .bool true, .int (181) 0, .ref 577, .none, .ref 578, .ref 579, .ref 580, .int (971) 0, .int (433) 0, .str "/claim/cut.py" 972].toArray, slots := #[] }
noncomputable def ob582 (P : Params) : Obj := fnObj 67 "_law_heard" (.none) (.str "law_pc0141_01" 891) (.ref 581) none (.none) (.none) none (.none) (rfl)
noncomputable def ob583 (P : Params) : Obj := { cls := .type "tuple", dict := none, data := .seq [.str "7" 974].toArray 0, slots := #[] }
noncomputable def ob584 (P : Params) : Obj := { cls := .type "tuple", dict := none, data := .seq [.int (7) 976, .int (0) 977].toArray 0, slots := #[] }
noncomputable def ob585 (P : Params) : Obj := { cls := .type "tuple", dict := none, data := .seq [.str "number" 975, .ref 584].toArray 0, slots := #[] }
noncomputable def ob586 (P : Params) : Obj := { cls := .type "tuple", dict := none, data := .seq [.ref 583, .ref 585].toArray 0, slots := #[] }
noncomputable def ob587 (P : Params) : Obj := { cls := .type "tuple", dict := none, data := .seq [.str "!Q" 978].toArray 0, slots := #[] }
noncomputable def ob588 (P : Params) : Obj := { cls := .type "tuple", dict := none, data := .seq [.str "text" 979, .bytes #[81] 980].toArray 0, slots := #[] }
noncomputable def ob589 (P : Params) : Obj := { cls := .type "tuple", dict := none, data := .seq [.ref 587, .ref 588].toArray 0, slots := #[] }
noncomputable def ob590 (P : Params) : Obj := { cls := .type "tuple", dict := none, data := .seq [.str "ZEROS" 981].toArray 0, slots := #[] }
noncomputable def ob591 (P : Params) : Obj := { cls := .type "tuple", dict := none, data := .seq [.str "figure" 982, .str "ZERO" 983].toArray 0, slots := #[] }
noncomputable def ob592 (P : Params) : Obj := { cls := .type "tuple", dict := none, data := .seq [.ref 590, .ref 591].toArray 0, slots := #[] }
noncomputable def ob593 (P : Params) : Obj := { cls := .type "tuple", dict := none, data := .seq [.str "ALL" 984, .str "!AB" 985].toArray 0, slots := #[] }
noncomputable def ob594 (P : Params) : Obj := { cls := .type "tuple", dict := none, data := .seq [.str "all" 986, .bytes #[65, 66] 987].toArray 0, slots := #[] }
noncomputable def ob595 (P : Params) : Obj := { cls := .type "tuple", dict := none, data := .seq [.ref 593, .ref 594].toArray 0, slots := #[] }
noncomputable def ob596 (P : Params) : Obj := { cls := .type "tuple", dict := none, data := .seq [.ref 586, .ref 589, .ref 592, .ref 595].toArray 0, slots := #[] }
noncomputable def ob602 (P : Params) : Obj := { cls := .type "code", dict := none, data := .fields [.str "_law_read" 989, .str "_law_read" 990, .str "/claim/cut.py" 991, .int (441) 0, .int (2) 0, .int (0) 0, .int (0) 0, .int (3) 0, .ref 597, .bool true, .int (181) 0, .ref 598, .none, .ref 599, .ref 600, .ref 601, .int (994) 0, .int (441) 0, .str "/claim/cut.py" 995].toArray, slots := #[] }
noncomputable def ob603 (P : Params) : Obj := fnObj 69 "_law_read" (.none) (.str "law_pc0141_01" 891) (.ref 602) none (.none) (.none) none (.none) (rfl)
noncomputable def ob609 (P : Params) : Obj := { cls := .type "code", dict := none, data := .fields [.str "_law_args" 997, .str "_law_args" 998, .str "/claim/cut.py" 999, .int (443) 0, .int (1) 0, .int (0) 0, .int (0) 0, .int (3) 0, .ref 604, .bool true, .int (181) 0, .ref 605, .none, .ref 606, .ref 607, .ref 608, .int (1009) 0, .int (443) 0, .str "/claim/cut.py" 1010].toArray, slots := #[] }
noncomputable def ob610 (P : Params) : Obj := fnObj 70 "_law_args" (.none) (.str "law_pc0141_01" 891) (.ref 609) none (.none) (.none) none (.none) (rfl)
noncomputable def ob616 (P : Params) : Obj := { cls := .type "code", dict := none, data := .fields [.str "law" 1012, .str "law" 1013, .str "/claim/cut.py" 1014, .int (457) 0, .int (1) 0, .int (0) 0, .int (0) 0, .int (3) 0, .ref 611, .bool true, .int (181) 0, .ref 612, .none, .ref 613, .ref 614, .ref 615, .int (1026) 0, .int (457) 0, .str "/claim/cut.py" 1027].toArray, slots := #[] }
noncomputable def ob617 (P : Params) : Obj := fnObj 71 "law" (.none) (.str "law_pc0141_01" 891) (.ref 616) none (.none) (.none) none (.none) (rfl)
def asK : List Addr := [0, 2, 3, 6, 20, 21, 22, 28, 29, 35, 36, 42, 43, 49, 50, 56, 57, 63, 64, 70, 71, 79, 80, 86, 87, 93, 94, 96, 97, 109, 110, 121, 122, 130, 131, 132, 138, 139, 145, 146, 152, 153, 159, 160, 166, 167, 173, 174, 180, 181, 187, 188, 194, 195, 201, 202, 208, 209, 215, 216, 222, 223, 229, 230, 236, 237, 243, 244, 250, 251, 257, 258, 264, 265, 271, 272, 278, 279, 285, 286, 292, 293, 299, 300, 308, 309, 315, 316, 322, 323, 325, 326, 336, 337, 341, 342, 350, 356, 357, 358, 364, 365, 371, 372, 378, 379, 385, 386, 387, 393, 394, 400, 401, 407, 408, 414, 415, 421, 422, 428, 429, 430, 436, 437, 443, 444, 450, 451, 452, 458, 459, 465, 466, 472, 473, 479, 480, 486, 487, 493, 494, 500, 501, 507, 508, 510, 511, 521, 522, 526, 527, 528, 529, 530, 531, 532, 533, 534, 535, 536, 537, 538, 539, 540, 546, 547, 553, 554, 560, 561, 567, 568, 574, 575, 581, 582, 583, 584, 585, 586, 587, 588, 589, 590, 591, 592, 593, 594, 595, 596, 602, 603, 609, 610, 616, 617]
noncomputable def KK (P : Params) : Frag := (nat_lit 0, ob0 P) :: (nat_lit 2, ob2 P) :: (nat_lit 3, ob3 P) :: (nat_lit 6, ob6 P) :: (nat_lit 20, ob20 P) :: (nat_lit 21, ob21 P) :: (nat_lit 22, ob22 P) :: (nat_lit 28, ob28 P) :: (nat_lit 29, ob29 P) :: (nat_lit 35, ob35 P) :: (nat_lit 36, ob36 P) :: (nat_lit 42, ob42 P) :: (nat_lit 43, ob43 P) :: (nat_lit 49, ob49 P) :: (nat_lit 50, ob50 P) :: (nat_lit 56, ob56 P) :: (nat_lit 57, ob57 P) :: (nat_lit 63, ob63 P) :: (nat_lit 64, ob64 P) :: (nat_lit 70, ob70 P) :: (nat_lit 71, ob71 P) :: (nat_lit 79, ob79 P) :: (nat_lit 80, ob80 P) :: (nat_lit 86, ob86 P) :: (nat_lit 87, ob87 P) :: (nat_lit 93, ob93 P) :: (nat_lit 94, ob94 P) :: (nat_lit 96, ob96 P) :: (nat_lit 97, ob97 P) :: (nat_lit 109, ob109 P) :: (nat_lit 110, ob110 P) :: (nat_lit 121, ob121 P) :: (nat_lit 122, ob122 P) :: (nat_lit 130, ob130 P) :: (nat_lit 131, ob131 P) :: (nat_lit 132, ob132 P) :: (nat_lit 138, ob138 P) :: (nat_lit 139, ob139 P) :: (nat_lit 145, ob145 P) :: (nat_lit 146, ob146 P) :: (nat_lit 152, ob152 P) :: (nat_lit 153, ob153 P) :: (nat_lit 159, ob159 P) :: (nat_lit 160, ob160 P) :: (nat_lit 166, ob166 P) :: (nat_lit 167, ob167 P) :: (nat_lit 173, ob173 P) :: (nat_lit 174, ob174 P) :: (nat_lit 180, ob180 P) :: (nat_lit 181, ob181 P) :: (nat_lit 187, ob187 P) :: (nat_lit 188, ob188 P) :: (nat_lit 194, ob194 P) :: (nat_lit 195, ob195 P) :: (nat_lit 201, ob201 P) :: (nat_lit 202, ob202 P) :: (nat_lit 208, ob208 P) :: (nat_lit 209, ob209 P) :: (nat_lit 215, ob215 P) :: (nat_lit 216, ob216 P) :: (nat_lit 222, ob222 P) :: (nat_lit 223, ob223 P) :: (nat_lit 229, ob229 P) :: (nat_lit 230, ob230 P) :: (nat_lit 236, ob236 P) :: (nat_lit 237, ob237 P) :: (nat_lit 243, ob243 P) :: (nat_lit 244, ob244 P) :: (nat_lit 250, ob250 P) :: (nat_lit 251, ob251 P) :: (nat_lit 257, ob257 P) :: (nat_lit 258, ob258 P) :: (nat_lit 264, ob264 P) :: (nat_lit 265, ob265 P) :: (nat_lit 271, ob271 P) :: (nat_lit 272, ob272 P) :: (nat_lit 278, ob278 P) :: (nat_lit 279, ob279 P) :: (nat_lit 285, ob285 P) :: (nat_lit 286, ob286 P) :: (nat_lit 292, ob292 P) :: (nat_lit 293, ob293 P) :: (nat_lit 299, ob299 P) :: (nat_lit 300, ob300 P) :: (nat_lit 308, ob308 P) :: (nat_lit 309, ob309 P) :: (nat_lit 315, ob315 P) :: (nat_lit 316, ob316 P) :: (nat_lit 322, ob322 P) :: (nat_lit 323, ob323 P) :: (nat_lit 325, ob325 P) :: (nat_lit 326, ob326 P) :: (nat_lit 336, ob336 P) :: (nat_lit 337, ob337 P) :: (nat_lit 341, ob341 P) :: (nat_lit 342, ob342 P) :: (nat_lit 350, ob350 P) :: (nat_lit 356, ob356 P) :: (nat_lit 357, ob357 P) :: (nat_lit 358, ob358 P) :: (nat_lit 364, ob364 P) :: (nat_lit 365, ob365 P) :: (nat_lit 371, ob371 P) :: (nat_lit 372, ob372 P) :: (nat_lit 378, ob378 P) :: (nat_lit 379, ob379 P) :: (nat_lit 385, ob385 P) :: (nat_lit 386, ob386 P) :: (nat_lit 387, ob387 P) :: (nat_lit 393, ob393 P) :: (nat_lit 394, ob394 P) :: (nat_lit 400, ob400 P) :: (nat_lit 401, ob401 P) :: (nat_lit 407, ob407 P) :: (nat_lit 408, ob408 P) :: (nat_lit 414, ob414 P) :: (nat_lit 415, ob415 P) :: (nat_lit 421, ob421 P) :: (nat_lit 422, ob422 P) :: (nat_lit 428, ob428 P) :: (nat_lit 429, ob429 P) :: (nat_lit 430, ob430 P) :: (nat_lit 436, ob436 P) :: (nat_lit 437, ob437 P) :: (nat_lit 443, ob443 P) :: (nat_lit 444, ob444 P) :: (nat_lit 450, ob450 P) :: (nat_lit 451, ob451 P) :: (nat_lit 452, ob452 P) :: (nat_lit 458, ob458 P) :: (nat_lit 459, ob459 P) :: (nat_lit 465, ob465 P) :: (nat_lit 466, ob466 P) :: (nat_lit 472, ob472 P) :: (nat_lit 473, ob473 P) :: (nat_lit 479, ob479 P) :: (nat_lit 480, ob480 P) :: (nat_lit 486, ob486 P) :: (nat_lit 487, ob487 P) :: (nat_lit 493, ob493 P) :: (nat_lit 494, ob494 P) :: (nat_lit 500, ob500 P) :: (nat_lit 501, ob501 P) :: (nat_lit 507, ob507 P) :: (nat_lit 508, ob508 P) :: (nat_lit 510, ob510 P) :: (nat_lit 511, ob511 P) :: (nat_lit 521, ob521 P) :: (nat_lit 522, ob522 P) :: (nat_lit 526, ob526 P) :: (nat_lit 527, ob527 P) :: (nat_lit 528, ob528 P) :: (nat_lit 529, ob529 P) :: (nat_lit 530, ob530 P) :: (nat_lit 531, ob531 P) :: (nat_lit 532, ob532 P) :: (nat_lit 533, ob533 P) :: (nat_lit 534, ob534 P) :: (nat_lit 535, ob535 P) :: (nat_lit 536, ob536 P) :: (nat_lit 537, ob537 P) :: (nat_lit 538, ob538 P) :: (nat_lit 539, ob539 P) :: (nat_lit 540, ob540 P) :: (nat_lit 546, ob546 P) :: (nat_lit 547, ob547 P) :: (nat_lit 553, ob553 P) :: (nat_lit 554, ob554 P) :: (nat_lit 560, ob560 P) :: (nat_lit 561, ob561 P) :: (nat_lit 567, ob567 P) :: (nat_lit 568, ob568 P) :: (nat_lit 574, ob574 P) :: (nat_lit 575, ob575 P) :: (nat_lit 581, ob581 P) :: (nat_lit 582, ob582 P) :: (nat_lit 583, ob583 P) :: (nat_lit 584, ob584 P) :: (nat_lit 585, ob585 P) :: (nat_lit 586, ob586 P) :: (nat_lit 587, ob587 P) :: (nat_lit 588, ob588 P) :: (nat_lit 589, ob589 P) :: (nat_lit 590, ob590 P) :: (nat_lit 591, ob591 P) :: (nat_lit 592, ob592 P) :: (nat_lit 593, ob593 P) :: (nat_lit 594, ob594 P) :: (nat_lit 595, ob595 P) :: (nat_lit 596, ob596 P) :: (nat_lit 602, ob602 P) :: (nat_lit 603, ob603 P) :: (nat_lit 609, ob609 P) :: (nat_lit 610, ob610 P) :: (nat_lit 616, ob616 P) :: (nat_lit 617, ob617 P) :: []
theorem keysK : ∀ P, asK = (KK P).map (·.1) := fun P => rfl
end Mine
end

section
open PySem PySem.W PySem.W.X PyProof.Rows
set_option maxRecDepth 100000
set_option maxHeartbeats 0
namespace Mine
theorem pieceT : ∀ (w : World) (os : OsState), (segRunT treeTable pw w 11 ann0 1 4000 (S3 w.params os) (piecesOf (bE.drop 4) benv cE p3 Bf)).map (fun r => (r.1, r.2.2, looksV (boot_heap w.params) r.2.1.abs, ((fun s => (obsZ asK s, s.heap.get? 232)) : Shared → _) r.2.1.abs)) = some (.next, (cE, pE), (true, openGood qv looseV), ((fun w => (valZ KK 618 1029 w, some (tabObj #[]))) : World → _) w) := fun w os => by kernel_rfl
theorem leftT : LeftO pw qv looseV xt1 (fun s => (obsZ asK s, s.heap.get? 232)) (fun w => (valZ KK 618 1029 w, some (tabObj #[]))) 8000 := left_of pieceT
theorem ghostT {w : World} {h : Heap} {l : List PySem.Str} {mean : ExcName → Option Value} {mg mb : PySem.Str → Option Value} (X : (KK w.params).In h) (hT : TabsAt [(236, 232)] h) (T : Top qv l mean mg mb h) : Top qv l mean mg mb (ghostOf h [(236, 232)]) := by
  have kp : ∀ b o, b ≠ 232 → h.get? b = some o → (ghostOf h [(236, 232)]).get? b = some o := fun b o hb e => ghost_ne e (by simpa using hb)
  refine { g := ghost_ns hT T.g, b := ghost_ns hT T.b, nolimit := let ⟨mc, a, r⟩ := T.nolimit; ⟨mc, ghost_ns hT a, r⟩, nodigits := let ⟨mc, a, r⟩ := T.nodigits; ⟨mc, ghost_ns hT a, r⟩, fn := ?_, own := fun o ho => absurd (show o ∈ ([] : List OwnSpec) from ho) List.not_mem_nil, const := T.const, free := T.free, builtins := T.builtins, tab := ?_, bmain := let ⟨bm, ob, a1, a2, a3, a4, r⟩ := T.bmain; ⟨bm, ob, a1, a2, ghost_get hT a3 (fun q => by rw [q] at a4; cases a4), a4, r⟩, seer := ?_ }
  · intro d hd
    obtain ⟨a, o, pm, code, doc, h1, h2, h3, c, oc, vs, t, rfl, h5, h6, h7⟩ := T.fn d hd
    exact ⟨a, o, pm, _, doc, h1, ghost_get hT h2 (fun q => by rw [q] at h3; cases h3), h3, c, oc, vs, t, rfl, ghost_get hT h5 (fun q => by rw [q] at h6; cases h6; cases h7), h6, h7⟩
  · intro d hd
    obtain ⟨a, o, fd, c, P, h1, h2, h3, h4, h5, h6⟩ := T.tab d hd
    have hn : d.name = "law" := by
      have hd' : d ∈ recsOf qv := hd
      have e : (recsOf qv).map (·.name) = [("law" : PySem.Str)] := by rfl
      have : d.name ∈ (recsOf qv).map (·.name) := List.mem_map_of_mem hd'
      rw [e] at this
      exact List.mem_singleton.mp this
    rw [hn] at h1
    have hc := law_code (x := "law") (c := 616) (P := 612) X T.g (by kernel_rfl) h1 h2 h3
    rw [h4] at hc
    cases hc
    obtain ⟨o', vs', file, tf, flags, tg, inF, text, tt, op, f1, f2, f3, f4, f5, f6, f7, f8, f9, f10, f11⟩ := h5
    have e616 := X 616 _ rfl
    rw [f1] at e616
    cases e616
    cases f2
    cases f3
    obtain ⟨⟨o2, vs2, g1, g2, g3, g4⟩, g5⟩ := h6
    refine ⟨a, o, fd, 616, _, hn ▸ h1, ghost_get hT h2 (fun q => by rw [q] at h3; cases h3), h3, h4, ⟨_, _, file, tf, flags, tg, inF, text, tt, op, kp _ _ (by decide) f1, rfl, rfl, f4, f5, f6, f7, kp _ _ (by decide) f8, f9, f10, f11⟩, ⟨o2, vs2, kp _ _ (by decide) g1, g2, g3, g4⟩, kp _ _ (by decide) g5⟩
  · intro hi
    obtain ⟨⟨mc, a1, a2⟩, ⟨mm, b1, b2⟩, ⟨mb', c1, c2⟩, ⟨mg', bm, ob, d1, d2, d3, d4, d5⟩⟩ := T.seer hi
    exact ⟨⟨mc, ghost_ns hT a1, a2⟩, ⟨mm, ghost_ns hT b1, b2⟩, ⟨mb', ghost_ns hT c1, c2⟩, ⟨mg', bm, ob, ghost_ns hT d1, d2, ghost_get hT d3 (fun q => by rw [q] at d4; cases d4), d4, d5⟩⟩
end Mine
end

section
open PySem PySem.W PyProof.Rows
set_option maxRecDepth 100000
namespace Mine
theorem val_of {o : Option Value} {v v' : Value} (h : o = some v) (h' : o = some v') : v = v' := Option.some.inj (h.symm.trans h')
abbrev Led := List (Addr × Obj)
def Does (w : World) (f : Addr) (vs : List Value) (d u : Nat) (news : Led) (Post : Value → Led → Prop) (Err : Addr → Led → Prop) : Prop :=
  ∀ (_ : rw1 = rw1) (dp un : Nat) (gd : Option (List Code)) (cn : PySem.Str) (cs : Scope) (a : Addr) (ccd : Value) (cl : List (PySem.Str × Addr)) (outer : List Env) (A₀ : Around) (base h₀ : Heap) (L : Addr) (m mg mb : PySem.Str → Option Value) (mean : ExcName → Option Value) (s : Shared) (Q E : Value → Shared → Prop),
    Below A₀ base outer h₀ → Fr h₀ L s.heap m → (KK w.params).In h₀ → News h₀ L s.heap news → Top qv (looseW qv looseV) mean mg mb h₀ → cs.kind = .function → dp + d < recursionLimit → un + u < cLine →
    (∀ v news' h' tk', Fr h₀ L h' m → News h₀ L h' news' → Post v news' → Q v { s with heap := h', toks := tk' }) →
    (∀ e news' h' tk', Fr h₀ L h' m → News h₀ L h' news' → Err e news' → E (.ref e) { s with heap := h', toks := tk' }) →
    wpAny (model pw w) (ktrTop dp un gd cn cs L a ccd cl outer) (call (.ref f) vs) Q E s
abbrev rdObj (e : Int × Int × Int) (t : Nat × Nat × Nat × Nat) (tl : Addr) (p : Int) (nv : Value) (n : Nat) : Obj :=
  dictOf [⟨e.1, .str "tokens" t.1, .ref tl⟩, ⟨e.2.1, .str "at" t.2.1, .int p t.2.2.1⟩, ⟨e.2.2, .str "named" t.2.2.2, nv⟩] n
abbrev tkObj (e : Int × Int × Int × Int) (t : Nat × Nat × Nat × Nat × Nat × Nat) (k wd : PySem.Str) (at_ : Value) (n : Nat) : Obj :=
  dictOf [⟨e.1, .str "kind" t.1, .str k t.2.1⟩, ⟨e.2.1, .str "worth" t.2.2.1, .str wd t.2.2.2.1⟩, ⟨e.2.2.1, .str "at" t.2.2.2.2.1, at_⟩, ⟨e.2.2.2, .str "is_in_a" t.2.2.2.2.2, .bool false⟩] n
def fdOf (o : Obj) : FuncData := match o.data with
  | .func f => f
  | _ => default
def Binds (w : World) (ob : Params → Obj) (vs : List Value) (binds : List (PySem.Str × Value)) : Prop := ∀ s : Shared, (KK w.params).In s.heap → BindsTo s (fdOf (ob w.params)) ⟨vs, []⟩ binds
theorem Binds.plain {w : World} {ob : Params → Obj} {vs : List Value} {binds : List (PySem.Str × Value)} (h : bindArgs (fdOf (ob w.params)) ⟨vs, []⟩ = pure binds) : Binds w ob vs binds := fun _ _ => BindsTo.of_eq h
theorem Binds.dflt {w : World} {ob : Params → Obj} {vs : List Value} {binds : List (PySem.Str × Value)} {o : Obj} {items : Array Value} {n : Nat} {k : Option (Array Value) → Sem (List (PySem.Str × Value))} (T : Addr) (hd : (fdOf (ob w.params)).defaults = .ref T) (ho : (KK w.params).lookup T = some o) (hs : o.data = .seq items n)
    (h₁ : bindArgs (fdOf (ob w.params)) ⟨vs, []⟩ = seqItems? (fdOf (ob w.params)).defaults >>= k) (h₂ : k (some items) = pure binds) : Binds w ob vs binds := fun _ X => binds_K X hd ho hs h₁ h₂
theorem reg_Co1_0 : True := by
  k_with_none
  (k_with "ktr_enter" => (refine' code_def ?k1 ?k2 ?k3 ?k4 ?k5 ?kA ?kF ?kK ?k6 ?k7 ?k8 ?k9 ?kB ?_ ?c2 ?c3 ?c4 ?c5; (case kA => exact rfl); (case kF => exact rfl); (case kK => assumption); (case k1 => k_asm); (case k2 => k_asm); (case k3 => k_asm); (case k4 => k_asm); (case k5 => k_asm); (case k6 => k_is); (case k7 => k_is); (case k8 => ktr_room); (case k9 => (rename Binds _ _ _ _ => hbX; exact hbX _ (by k_in))); (case c5 => decide); (case kB => exact locs rfl); (case c2 => exact rfl); (case c3 => exact rfl); (case c4 => exact rfl); k_whole; intro g' L' h' FG' F' N' B' X' T'; (try dsimp only); (try k_fold)))
  trivial
theorem len_led {prog : Program} {w : World} {A : Around} {E : Value → Shared → Prop} {s : Shared} {h₀ : Heap} {L l : Addr} {news : Led} {toks : List Value} {n : Nat} {Q : Value → Shared → Prop} (N : News h₀ L s.heap news) (hl : (l, W.listOf toks.toArray n) ∈ news) (hz : toks.length ≤ 1000)
    (h : Q (.int toks.length (s.toks + 1)) { s with toks := s.toks + 1 + 1 }) : wpAny (model prog w) A (call (.builtin "len") [.ref l]) Q E s :=
  kun_lenL (News.isList N hl) (by rw [List.size_toArray]) (by omega) h
theorem item_led {prog : Program} {w : World} {A : Around} {E : Value → Shared → Prop} {s : Shared} {h₀ : Heap} {L l : Addr} {news : Led} {toks : List Value} {n : Nat} {value slice : PySem.Expr} {k : Int} {u : Tok} {Q : Value → Shared → Prop} (N : News h₀ L s.heap news) (hl : (l, W.listOf toks.toArray n) ∈ news) (hz : toks.length ≤ 1000)
    (h0 : 0 ≤ k) (hk : k < (toks.length : Int)) (h : ∀ v, toks[k.toNat]? = some v → Q v s)
    (hs : subscripted slice false (.ref l) (.int k u) = operate [.ref l, .int k u] (getItem (.ref l) (.int k u)) := by with_unfolding_all rfl) :
    wpAny (model prog w) A (subscriptTail value slice (.ref l) (.int k u)) Q E s := by
  have hlt : k.toNat < toks.length := by omega
  have L' := News.isList N hl
  exact tail_any L'.typeIs slot_list_getitem.lookup (wpAny_getItem_list (x := toks[k.toNat]) L' h0 (by omega) (by simp [hlt]) (h _ (by simp [hlt]))) hs
abbrev tupO (vs : List Value) (n : Nat) : Obj := { cls := .type "tuple", data := .seq vs.toArray n }
def TokAt (news : Led) (x : Addr) (i : Nat) (td : PySem.Str × PySem.Str) : Prop :=
  ∃ dx ta t1 t2 tn e t n, (x, instObj 326 dx) ∈ news ∧ (dx, tkObj e t td.1 td.2 (.ref ta) n) ∈ news ∧ (ta, tupO [.int 3 t1, .int ((i : Int) + 1) t2] tn) ∈ news
def RS (news : Led) (r : Addr) (tds : List (PySem.Str × PySem.Str)) (p : Nat) : Prop :=
  ∃ rd tl toks e t nv n ln, (r, instObj 511 rd) ∈ news ∧ (rd, rdObj e t tl p nv n) ∈ news ∧ (tl, W.listOf (List.toArray toks) ln) ∈ news ∧ toks.length = tds.length ∧ toks.length ≤ 1000 ∧
    ∀ (i : Nat) td, tds[i]? = some td → ∃ x, toks[i]? = some (.ref x) ∧ TokAt news x i td
theorem reg_Co1_1 : True := by
  (k_with "call builtin:len" => (k_here; (with_reducible show wpAny _ _ (call (Value.builtin "len") [Value.ref _]) _ _ _); k_dflt (refine' len_led ?k1 ?k2 ?k3 ?_; (case k1 => k_asm); (case k2 => k_mem); (case k3 => assumption); k_whole)))
  (k_with "subscriptTail" => (k_here; (with_reducible show wpAny _ _ (subscriptTail _ _ (Value.ref _) (Value.int _ _)) _ _ _); k_dflt (refine' item_led ?k1 ?k2 ?k3 ?k4 ?k5 ?_ ?k6; (case k1 => k_asm); (case k2 => k_mem); (case k3 => assumption); (case k4 => omega); (case k5 => omega); (case k6 => with_unfolding_all rfl); k_whole); intro vI hI))
  trivial
set_option maxHeartbeats 4000000 in
theorem peek_b (w : World) (vs : List Value) (r : Addr) (news : Led) (tds : List (PySem.Str × PySem.Str)) (p : Nat) (j : Int) (tj : Nat) (hb : Binds w ob365 vs [("self", .ref r), ("ahead", .int j tj)]) (hR : RS news r tds p) (hj : 0 ≤ j) :
    Does w 365 vs 20 160 news (fun v news' => news = news' ∧ ((tds[p + j.toNat]? = none ∧ v = .none) ∨ ∃ td x, tds[p + j.toNat]? = some td ∧ v = .ref x ∧ TokAt news x (p + j.toNat) td)) (fun _ _ => False) := by
  obtain ⟨rd, tl, toks, e, t, nv, n, ln, h1, h2, h3, hl, hz, ht⟩ := hR
  unfold Does
  k_fill
  intro _ dp un gd cn cs a ccd cl outer A₀ base h₀ L m mg mb mean s Q E B F X N T hk hd hu hret herr
  refine wpAny_call ?_
  k_dflt ktr_enter
  k_steps
  · refine hret _ _ _ _ (by k_asm) (by k_asm) ⟨rfl, .inr ?_⟩
    have hlt : p + j.toNat < tds.length := by omega
    obtain ⟨x, hx, hT⟩ := ht (p + j.toNat) tds[p + j.toNat] (List.getElem?_eq_getElem hlt)
    refine ⟨_, x, List.getElem?_eq_getElem hlt, ?_, hT⟩
    refine (val_of ?_ (by assumption)).symm
    rw [← hx]; congr 1; omega
  · refine hret _ _ _ _ (by k_asm) (by k_asm) ⟨rfl, .inl ⟨List.getElem?_eq_none (by omega), rfl⟩⟩
theorem peek_does (w : World) (r : Addr) (news : Led) (tds : List (PySem.Str × PySem.Str)) (p : Nat) (j : Int) (tj : Nat) (hR : RS news r tds p) (hj : 0 ≤ j) :
    Does w 365 [.ref r, .int j tj] 20 160 news (fun v news' => news = news' ∧ ((tds[p + j.toNat]? = none ∧ v = .none) ∨ ∃ td x, tds[p + j.toNat]? = some td ∧ v = .ref x ∧ TokAt news x (p + j.toNat) td)) (fun _ _ => False) :=
  peek_b w _ r news tds p j tj (.dflt 358 rfl rfl rfl rfl rfl) hR hj
theorem peek_does0 (w : World) (r : Addr) (news : Led) (tds : List (PySem.Str × PySem.Str)) (p : Nat) (hR : RS news r tds p) :
    Does w 365 [.ref r] 20 160 news (fun v news' => news = news' ∧ ((tds[p]? = none ∧ v = .none) ∨ ∃ td x, tds[p]? = some td ∧ v = .ref x ∧ TokAt news x p td)) (fun _ _ => False) :=
  peek_b w _ r news tds p 0 _ (.dflt 358 rfl rfl rfl rfl rfl) hR (by decide)
theorem RS.inst {news : Led} {r : Addr} {tds : List (PySem.Str × PySem.Str)} {p : Nat} (h : RS news r tds p) : ∃ rd tl e t nv n, (r, instObj 511 rd) ∈ news ∧ (rd, rdObj e t tl p nv n) ∈ news := by
  obtain ⟨rd, tl, _, e, t, nv, n, _, h1, h2, _⟩ := h
  exact ⟨rd, tl, e, t, nv, n, h1, h2⟩
theorem Does.use {w : World} {f : Addr} {vs : List Value} {d u : Nat} {news : Led} {Post : Value → Led → Prop} {Err : Addr → Led → Prop} (H : Does w f vs d u news Post Err)
    {dp un : Nat} {gd : Option (List Code)} {cn : PySem.Str} {cs : Scope} {a : Addr} {ccd : Value} {cl : List (PySem.Str × Addr)} {outer : List Env} {A₀ : Around} {base h₀ : Heap} {L : Addr} {m mg mb : PySem.Str → Option Value} {mean : ExcName → Option Value} {s : Shared} {Q E : Value → Shared → Prop}
    (B : Below A₀ base outer h₀) (F : Fr h₀ L s.heap m) (X : (KK w.params).In h₀) (N : News h₀ L s.heap news) (T : Top qv (looseW qv looseV) mean mg mb h₀) (hk : cs.kind = .function) (hd : dp + d < recursionLimit) (hu : un + u < cLine)
    (hret : ∀ v news' h' tk', Fr h₀ L h' m → News h₀ L h' news' → Post v news' → Q v { s with heap := h', toks := tk' })
    (herr : ∀ e news' h' tk', Fr h₀ L h' m → News h₀ L h' news' → Err e news' → E (.ref e) { s with heap := h', toks := tk' }) :
    wpAny (model pw w) (ktrTop dp un gd cn cs L a ccd cl outer) (call (.ref f) vs) Q E s := H rfl dp un gd cn cs a ccd cl outer A₀ base h₀ L m mg mb mean s Q E B F X N T hk hd hu hret herr
end Mine
end

section
open PySem PySem.W PyProof.Rows
set_option maxRecDepth 100000
namespace Mine
theorem rd_method {prog : Program} {w : World} {A : Around} {E : Value → Shared → Prop} {s : Shared} {h₀ : Heap} {L r f : Addr} {m : PySem.Str → Option Value} {news : Led} {tds : List (PySem.Str × PySem.Str)} {p : Nat} {name : PySem.Str} {pl : Sem Bool} {Q : Value × List Value → Shared → Prop}
    (F : Fr h₀ L s.heap m) (X : (KK w.params).In h₀) (N : News h₀ L s.heap news) (hR : RS news r tds p) (hg : plainGet (KK w.params) 511 name = true) (hf : findIn (KK w.params) (.ref 511) name = some (some (.ref f))) (ht : isFn (KK w.params) (.ref f) = true)
    (hn : name ≠ "tokens" ∧ name ≠ "at" ∧ name ≠ "named") (h : Q (.ref f, [.ref r]) s) : wpAny (model prog w) A (getMethod (.ref r) name pl) Q E s := by
  obtain ⟨rd, tl, e, t, nv, n, h1, h2⟩ := RS.inst hR
  refine method_inst F X (InstAt.of_news N h1 h2) hg hf ht ?_ h
  have e1 : ((("tokens" : PySem.Str) == name) = false) := beq_eq_false_iff_ne.mpr (Ne.symm hn.1)
  have e2 : ((("at" : PySem.Str) == name) = false) := beq_eq_false_iff_ne.mpr (Ne.symm hn.2.1)
  have e3 : ((("named" : PySem.Str) == name) = false) := beq_eq_false_iff_ne.mpr (Ne.symm hn.2.2)
  simp only [getL, List.find?, Value.isStr, e1, e2, e3]
  rfl
theorem Does.use0 {w : World} {f : Addr} {vs : List Value} {d u : Nat} {news : Led} {Post : Value → Led → Prop} (H : Does w f vs d u news Post (fun _ _ => False))
    {dp un : Nat} {gd : Option (List Code)} {cn : PySem.Str} {cs : Scope} {a : Addr} {ccd : Value} {cl : List (PySem.Str × Addr)} {outer : List Env} {A₀ : Around} {base h₀ : Heap} {L : Addr} {m mg mb : PySem.Str → Option Value} {mean : ExcName → Option Value} {s : Shared} {Q E : Value → Shared → Prop}
    (B : Below A₀ base outer h₀) (F : Fr h₀ L s.heap m) (X : (KK w.params).In h₀) (N : News h₀ L s.heap news) (T : Top qv (looseW qv looseV) mean mg mb h₀) (hk : cs.kind = .function) (hd : dp + d < recursionLimit) (hu : un + u < cLine)
    (hret : ∀ v news' h' tk', Fr h₀ L h' m → News h₀ L h' news' → Post v news' → Q v { s with heap := h', toks := tk' }) :
    wpAny (model pw w) (ktrTop dp un gd cn cs L a ccd cl outer) (call (.ref f) vs) Q E s := Does.use H B F X N T hk hd hu hret (fun _ _ _ _ _ _ z => z.elim)
end Mine
end

section
open PySem PySem.W PyProof.Rows
set_option maxRecDepth 100000
namespace Mine
theorem RS.elim {C : Prop} {news : Led} {r : Addr} {tds : List (PySem.Str × PySem.Str)} {p : Nat} (h : RS news r tds p) (k : ∀ rd tl e t nv n, (r, instObj 511 rd) ∈ news → (rd, rdObj e t tl p nv n) ∈ news → C) : C := by
  obtain ⟨rd, tl, e, t, nv, n, h1, h2⟩ := RS.inst h
  exact k _ _ _ _ _ _ h1 h2
theorem TokAt.elim {C : Prop} {news : Led} {x : Addr} {i : Nat} {td : PySem.Str × PySem.Str} (h : TokAt news x i td) (k : ∀ dx ta t1 t2 tn e t n, (x, instObj 326 dx) ∈ news → (dx, tkObj e t td.1 td.2 (.ref ta) n) ∈ news → (ta, tupO [.int 3 t1, .int ((i : Int) + 1) t2] tn) ∈ news → C) : C := by
  obtain ⟨dx, ta, t1, t2, tn, e, t, n, h1, h2, h3⟩ := h
  exact k _ _ _ _ _ _ _ _ h1 h2 h3
section
variable {h₀ : Heap} {L : Addr} {m : PySem.Str → Option Value} {news : Led} {s : Shared} {Q : Value → Shared → Prop} {X Y : Value} {R K P3 : Led → Prop} {P : Value → Led → Prop} {A B : Prop} {f : Nat → Value}
theorem got_v (k : ∀ h' tk', Fr h₀ L h' m → News h₀ L h' news → Q X { s with heap := h', toks := tk' }) :
    ∀ v news' h' tk', Fr h₀ L h' m → News h₀ L h' news' → (news = news' ∧ v = X) → Q v { s with heap := h', toks := tk' } := by
  rintro _ _ h' tk' F N ⟨rfl, rfl⟩; exact k h' tk' F N
theorem got_x (k : ∀ t h' tk', Fr h₀ L h' m → News h₀ L h' news → Q (f t) { s with heap := h', toks := tk' }) :
    ∀ v news' h' tk', Fr h₀ L h' m → News h₀ L h' news' → (news = news' ∧ ∃ t, v = f t) → Q v { s with heap := h', toks := tk' } := by
  rintro _ _ h' tk' F N ⟨rfl, t, rfl⟩; exact k t h' tk' F N
theorem got_vm (k : ∀ news' h' tk', Fr h₀ L h' m → News h₀ L h' news' → R news' → K news' → Q X { s with heap := h', toks := tk' }) :
    ∀ v news' h' tk', Fr h₀ L h' m → News h₀ L h' news' → (v = X ∧ R news' ∧ K news') → Q v { s with heap := h', toks := tk' } := by
  rintro _ _ h' tk' F N ⟨rfl, r, q⟩; exact k _ h' tk' F N r q
theorem got_xm (k : ∀ t news' h' tk', Fr h₀ L h' m → News h₀ L h' news' → R news' → K news' → Q (f t) { s with heap := h', toks := tk' }) :
    ∀ v news' h' tk', Fr h₀ L h' m → News h₀ L h' news' → ((∃ t, v = f t) ∧ R news' ∧ K news') → Q v { s with heap := h', toks := tk' } := by
  rintro _ _ h' tk' F N ⟨⟨t, rfl⟩, r, q⟩; exact k _ _ h' tk' F N r q
theorem got_xs (k : ∀ t news' h' tk', Fr h₀ L h' m → News h₀ L h' news' → K news' → Q (f t) { s with heap := h', toks := tk' }) :
    ∀ v news' h' tk', Fr h₀ L h' m → News h₀ L h' news' → ((∃ t, v = f t) ∧ K news') → Q v { s with heap := h', toks := tk' } := by
  rintro _ _ h' tk' F N ⟨⟨t, rfl⟩, q⟩; exact k _ _ h' tk' F N q
theorem got_3 (k : ∀ v news' h' tk', Fr h₀ L h' m → News h₀ L h' news' → P v news' → R news' → K news' → Q v { s with heap := h', toks := tk' }) :
    ∀ v news' h' tk', Fr h₀ L h' m → News h₀ L h' news' → (P v news' ∧ R news' ∧ K news') → Q v { s with heap := h', toks := tk' } := by
  rintro v _ h' tk' F N ⟨p, r, q⟩; exact k _ _ h' tk' F N p r q
theorem got_4 (k : ∀ v news' h' tk', Fr h₀ L h' m → News h₀ L h' news' → P v news' → R news' → K news' → P3 news' → Q v { s with heap := h', toks := tk' }) :
    ∀ v news' h' tk', Fr h₀ L h' m → News h₀ L h' news' → (P v news' ∧ R news' ∧ K news' ∧ P3 news') → Q v { s with heap := h', toks := tk' } := by
  rintro v _ h' tk' F N ⟨p, r, q, t⟩; exact k _ _ h' tk' F N p r q t
theorem got_dr {f2 : Int → Nat → Value} {A2 B2 : Int → Prop} (k : ∀ x t news' h' tk', Fr h₀ L h' m → News h₀ L h' news' → A2 x → B2 x → R news' → K news' → P3 news' → Q (f2 x t) { s with heap := h', toks := tk' }) :
    ∀ v news' h' tk', Fr h₀ L h' m → News h₀ L h' news' → ((∃ x t, v = f2 x t ∧ A2 x ∧ B2 x) ∧ R news' ∧ K news' ∧ P3 news') → Q v { s with heap := h', toks := tk' } := by
  rintro _ _ h' tk' F N ⟨⟨x, t, rfl, a, b⟩, r, q, p⟩; exact k _ _ _ h' tk' F N a b r q p
theorem got_pi {I : Nat → Value → Prop} (k : ∀ v news' h' tk', Fr h₀ L h' m → News h₀ L h' news' → ∀ i, I i v → R news' → K news' → P3 news' → Q v { s with heap := h', toks := tk' }) :
    ∀ v news' h' tk', Fr h₀ L h' m → News h₀ L h' news' → ((∃ i, I i v) ∧ R news' ∧ K news' ∧ P3 news') → Q v { s with heap := h', toks := tk' } := by
  rintro v _ h' tk' F N ⟨⟨i, a⟩, r, q, p⟩; exact k _ _ h' tk' F N _ a r q p
theorem got_tp {M : Addr → Nat → Nat → Led → Prop} (k : ∀ a t1 t2 news' h' tk', Fr h₀ L h' m → News h₀ L h' news' → M a t1 t2 news' → K news' → Q (.ref a) { s with heap := h', toks := tk' }) :
    ∀ v news' h' tk', Fr h₀ L h' m → News h₀ L h' news' → ((∃ a t1 t2, v = .ref a ∧ M a t1 t2 news') ∧ K news') → Q v { s with heap := h', toks := tk' } := by
  rintro _ _ h' tk' F N ⟨⟨a, t1, t2, rfl, p⟩, q⟩; exact k _ _ _ _ h' tk' F N p q
theorem got_skT (hn : B → False) (k : A → ∀ news' h' tk', Fr h₀ L h' m → News h₀ L h' news' → R news' → K news' → Q X { s with heap := h', toks := tk' }) :
    ∀ v news' h' tk', Fr h₀ L h' m → News h₀ L h' news' → (A ∧ v = X ∧ R news' ∧ K news') ∨ (B ∧ v = Y ∧ news = news') → Q v { s with heap := h', toks := tk' } := by
  rintro _ _ h' tk' F N (⟨a, rfl, r, q⟩ | ⟨b, _, _⟩)
  · exact k a _ h' tk' F N r q
  · exact (hn b).elim
theorem got_skF (hn : A → False) (k : B → ∀ h' tk', Fr h₀ L h' m → News h₀ L h' news → Q Y { s with heap := h', toks := tk' }) :
    ∀ v news' h' tk', Fr h₀ L h' m → News h₀ L h' news' → (A ∧ v = X ∧ R news' ∧ K news') ∨ (B ∧ v = Y ∧ news = news') → Q v { s with heap := h', toks := tk' } := by
  rintro _ _ h' tk' F N (⟨a, _⟩ | ⟨b, rfl, rfl⟩)
  · exact (hn a).elim
  · exact k b h' tk' F N
theorem got_sk (k1 : A → ∀ news' h' tk', Fr h₀ L h' m → News h₀ L h' news' → R news' → K news' → Q X { s with heap := h', toks := tk' }) (k2 : B → ∀ h' tk', Fr h₀ L h' m → News h₀ L h' news → Q Y { s with heap := h', toks := tk' }) :
    ∀ v news' h' tk', Fr h₀ L h' m → News h₀ L h' news' → (A ∧ v = X ∧ R news' ∧ K news') ∨ (B ∧ v = Y ∧ news = news') → Q v { s with heap := h', toks := tk' } := by
  rintro _ _ h' tk' F N (⟨a, rfl, r, q⟩ | ⟨b, rfl, rfl⟩)
  · exact k1 a _ h' tk' F N r q
  · exact k2 b h' tk' F N
end
section
variable {h₀ : Heap} {L : Addr} {m : PySem.Str → Option Value} {news : Led} {s : Shared} {Q : Value → Shared → Prop} {R K : Led → Prop} {o : Option (PySem.Str × PySem.Str)} {i : Nat}
theorem got_pk {td : PySem.Str × PySem.Str} (ho : o = some td) (k : ∀ x dx ta t1 t2 tn e t n h' tk', Fr h₀ L h' m → News h₀ L h' news → (x, instObj 326 dx) ∈ news → (dx, tkObj e t td.1 td.2 (.ref ta) n) ∈ news → (ta, tupO [.int 3 t1, .int ((i : Int) + 1) t2] tn) ∈ news → Q (.ref x) { s with heap := h', toks := tk' }) :
    ∀ v news' h' tk', Fr h₀ L h' m → News h₀ L h' news' → (news = news' ∧ ((o = none ∧ v = .none) ∨ ∃ td x, o = some td ∧ v = .ref x ∧ TokAt news x i td)) → Q v { s with heap := h', toks := tk' } := by
  rintro _ _ h' tk' F N ⟨rfl, ⟨h, _⟩ | ⟨td', x, h, rfl, ht⟩⟩
  · rw [ho] at h; cases h
  · obtain rfl := Option.some.inj (ho.symm.trans h)
    exact ht.elim fun dx ta t1 t2 tn e t n a b c => k _ _ _ _ _ _ _ _ _ _ _ F N a b c
theorem got_pn (ho : o = none) (k : ∀ h' tk', Fr h₀ L h' m → News h₀ L h' news → Q .none { s with heap := h', toks := tk' }) :
    ∀ v news' h' tk', Fr h₀ L h' m → News h₀ L h' news' → (news = news' ∧ ((o = none ∧ v = .none) ∨ ∃ td x, o = some td ∧ v = .ref x ∧ TokAt news x i td)) → Q v { s with heap := h', toks := tk' } := by
  rintro _ _ h' tk' F N ⟨rfl, ⟨h, rfl⟩ | ⟨td', x, h, rfl, ht⟩⟩
  · exact k _ _ F N
  · rw [ho] at h; cases h
theorem got_ps (hn : o = none → False) (k : ∀ td x dx ta t1 t2 tn e t n h' tk', Fr h₀ L h' m → News h₀ L h' news → o = some td → (x, instObj 326 dx) ∈ news → (dx, tkObj e t td.1 td.2 (.ref ta) n) ∈ news → (ta, tupO [.int 3 t1, .int ((i : Int) + 1) t2] tn) ∈ news → Q (.ref x) { s with heap := h', toks := tk' }) :
    ∀ v news' h' tk', Fr h₀ L h' m → News h₀ L h' news' → (news = news' ∧ ((o = none ∧ v = .none) ∨ ∃ td x, o = some td ∧ v = .ref x ∧ TokAt news x i td)) → Q v { s with heap := h', toks := tk' } := by
  rintro _ _ h' tk' F N ⟨rfl, ⟨h, rfl⟩ | ⟨td', x, h, rfl, ht⟩⟩
  · exact (hn h).elim
  · exact ht.elim fun dx ta t1 t2 tn e t n a b c => k _ _ _ _ _ _ _ _ _ _ _ _ F N h a b c
theorem got_p2 (k1 : o = none → ∀ h' tk', Fr h₀ L h' m → News h₀ L h' news → Q .none { s with heap := h', toks := tk' }) (k : ∀ td x dx ta t1 t2 tn e t n h' tk', Fr h₀ L h' m → News h₀ L h' news → o = some td → (x, instObj 326 dx) ∈ news → (dx, tkObj e t td.1 td.2 (.ref ta) n) ∈ news → (ta, tupO [.int 3 t1, .int ((i : Int) + 1) t2] tn) ∈ news → Q (.ref x) { s with heap := h', toks := tk' }) :
    ∀ v news' h' tk', Fr h₀ L h' m → News h₀ L h' news' → (news = news' ∧ ((o = none ∧ v = .none) ∨ ∃ td x, o = some td ∧ v = .ref x ∧ TokAt news x i td)) → Q v { s with heap := h', toks := tk' } := by
  rintro _ _ h' tk' F N ⟨rfl, ⟨h, rfl⟩ | ⟨td', x, h, rfl, ht⟩⟩
  · exact k1 h _ _ F N
  · exact ht.elim fun dx ta t1 t2 tn e t n a b c => k _ _ _ _ _ _ _ _ _ _ _ _ F N h a b c
theorem got_tk {td : PySem.Str × PySem.Str} (k : ∀ x dx ta t1 t2 tn e t n news' h' tk', Fr h₀ L h' m → News h₀ L h' news' → R news' → K news' → (x, instObj 326 dx) ∈ news' → (dx, tkObj e t td.1 td.2 (.ref ta) n) ∈ news' → (ta, tupO [.int 3 t1, .int ((i : Int) + 1) t2] tn) ∈ news' → Q (.ref x) { s with heap := h', toks := tk' }) :
    ∀ v news' h' tk', Fr h₀ L h' m → News h₀ L h' news' → (R news' ∧ K news' ∧ ∃ x, v = .ref x ∧ TokAt news' x i td) → Q v { s with heap := h', toks := tk' } := by
  rintro _ _ h' tk' F N ⟨r, q, x, rfl, ht⟩
  exact ht.elim fun dx ta t1 t2 tn e t n a b c => k _ _ _ _ _ _ _ _ _ _ _ _ F N r q a b c
end
theorem room_le {a d k m n r : Nat} (h : d + n < r) (e : a = d + k) (b : Nat.ble (k + m) n = true) : a + m < r := by
  have := Nat.le_of_ble_eq_true b; omega
theorem room_lt {a d n r : Nat} (h : d + n < r) (e : a = d) : a < r := by omega
end Mine
end

section
open PySem PySem.W PyProof.Rows PySem.Calls
set_option maxRecDepth 100000
namespace Mine
def argOf (m : PySem.Str → Option Value) (kd : PySem.Str → Option NameKind) (n : Nat) : PySem.Expr → Option (Value × Nat)
  | .Name x _ => match x == ("__debug__" : PySem.Str), kd x with
    | false, some .local => match m x with
      | some v => some (v, n)
      | none => none
    | _, _ => none
  | .Constant (.str x) _ _ => some (.str x n, n + 1)
  | .Constant (.int i) _ _ => some (.int i n, n + 1)
  | .Constant .none _ _ => some (.none, n)
  | _ => none
def argsOf (m : PySem.Str → Option Value) (kd : PySem.Str → Option NameKind) (n : Nat) : List PySem.Expr → Option (List Value × Nat)
  | [] => some ([], n)
  | e :: r => match argOf m kd n e with
    | some (v, n') => match argsOf m kd n' r with
      | some (vs, n'') => some (v :: vs, n'')
      | none => none
    | none => none
theorem starEach_simple {m : PySem.Str → Option Value} {kd : PySem.Str → Option NameKind} {n n' : Nat} {v : Value} {e : PySem.Expr} {r : List PySem.Expr} {env : Env} (h : argOf m kd n e = some (v, n')) : starEach (e :: r) env = (false, eval e env) :: starEach r env := by
  cases e <;> first | rfl | (simp only [argOf] at h; cases h)
section
variable {M : Model} {A : Around} {E : Value → Shared → Prop} {h₀ : Heap} {L a : Addr} {m : PySem.Str → Option Value} {cn : PySem.Str} {cs : Scope} {ccd : Value} {cl : List (PySem.Str × Addr)}
theorem arg_simple (hk : cs.kind = .function) {e : PySem.Expr} {s : Shared} {Q : Value → Shared → Prop} {v : Value} {n : Nat} (F : Fr h₀ L s.heap m) (hv : argOf m (envX cn cs L a ccd cl).kindOf s.toks e = some (v, n)) (h : Q v { s with toks := n }) : wpAny M A (eval e (envX cn cs L a ccd cl)) Q E s := by
  unfold argOf at hv
  split at hv
  · split at hv
    · rename_i hd hx
      split at hv
      · rename_i hm
        cases hv
        exact nameX_L F hm h hk hx hd
      · cases hv
    · cases hv
  · cases hv; exact Constant_str h
  · cases hv; exact wpAny_Constant_int h
  · cases hv; exact wpAny_Constant_none h
  · cases hv
theorem args_simple (hk : cs.kind = .function) {pos : Pos} : ∀ {es : List PySem.Expr} {s : Shared} {Q : List Value → Shared → Prop} {vs : List Value} {n : Nat} (F : Fr h₀ L s.heap m) (hv : argsOf m (envX cn cs L a ccd cl).kindOf s.toks es = some (vs, n)) (h : Q vs { s with toks := n }), wpAny M A (spliced (backTo pos (starEach es (envX cn cs L a ccd cl)))) Q E s
  | [], s, Q, vs, n, F, hv, h => by cases hv; exact args_nil h
  | e :: r, s, Q, vs, n, F, hv, h => by
    unfold argsOf at hv
    split at hv
    · rename_i v n1 h1
      split at hv
      · rename_i vs' n2 h2
        cases hv
        exact args_cons (arg_simple hk F h1 (args_simple hk (s := { s with toks := n1 }) F h2 h)) (starEach_simple h1)
      · cases hv
    · cases hv
theorem args_plain {pos : Pos} {kd : PySem.Str → Option NameKind} {env : Env} : ∀ {es : List PySem.Expr} {n n' : Nat} {vs : List Value}, argsOf m kd n es = some (vs, n') → (backTo pos (starEach es env)).any (·.1) = false
  | [], _, _, _, _ => rfl
  | e :: r, n, n', vs, hv => by
    unfold argsOf at hv
    split at hv
    · rename_i v n1 h1
      split at hv
      · rename_i vs' n2 h2
        rw [starEach_simple h1]
        exact args_plain (es := r) h2
      · cases hv
    · cases hv
theorem callArgs {prog : Program} {w : World} (hk : cs.kind = .function) {pos : Pos} {es : List PySem.Expr} {s : Shared} {Q : Value → Shared → Prop} {f : Value} {first vs : List Value} {n : Nat} {K : Frag} (F : Fr h₀ L s.heap m) (X : K.In h₀) (hkp : keepIn K f = true) (hv : argsOf m (envX cn cs L a ccd cl).kindOf s.toks es = some (vs, n))
    (h : wpAny (model prog w) A (call f (first ++ vs)) Q E { s with toks := n }) : wpAny (model prog w) A (callWith pos f first (backTo pos (starEach es (envX cn cs L a ccd cl))) []) Q E s := by
  cases es with
  | nil => cases hv; exact callWith_K0 (Frag.In.keeps X (Fr.keep F)) hkp h
  | cons e r =>
    have h1 : ∃ v n1, argOf m (envX cn cs L a ccd cl).kindOf s.toks e = some (v, n1) ∧ ∃ vs' n2, argsOf m (envX cn cs L a ccd cl).kindOf n1 r = some (vs', n2) := by
      unfold argsOf at hv
      split at hv
      · rename_i v n1 h1
        split at hv
        · rename_i vs' n2 h2; exact ⟨v, n1, h1, vs', n2, h2⟩
        · cases hv
      · cases hv
    obtain ⟨v, n1, h1, vs', n2, h2⟩ := h1
    exact callWith_K X hkp (args_simple hk F hv ⟨Frag.In.keeps X (Fr.keep F), h⟩) (starEach_simple h1) (args_plain h2)
end
theorem argOf_name {m : PySem.Str → Option Value} {kd : PySem.Str → Option NameKind} {n n' : Nat} {x : PySem.Str} {p : Pos} {v : Value} (h : argOf m kd n (.Name x p) = some (v, n')) : n' = n := by
  simp only [argOf] at h
  split at h
  · split at h
    · cases h; rfl
    · cases h
  · cases h
def FnEnv (env : Env) (L : Addr) : Prop := ∃ cn cs a ccd cl, env = envX cn cs L a ccd cl ∧ cs.kind = .function
theorem FnEnv.of {qual : PySem.Str} {scope : Scope} {L f : Addr} {cdv : Value} (hk : scope.kind = .function) : FnEnv (envOf qual scope L f cdv) L := ⟨_, _, _, _, [], rfl, hk⟩
theorem FnEnv.ofX {cn : PySem.Str} {cs : Scope} {L a : Addr} {ccd : Value} {cl : List (PySem.Str × Addr)} (hk : cs.kind = .function) : FnEnv (envX cn cs L a ccd cl) L := ⟨_, _, _, _, _, rfl, hk⟩
def RdM (w : World) (name : PySem.Str) (f : Addr) : Prop := plainGet (KK w.params) 511 name = true ∧ findIn (KK w.params) (.ref 511) name = some (some (.ref f)) ∧ isFn (KK w.params) (.ref f) = true ∧ (name ≠ "tokens" ∧ name ≠ "at" ∧ name ≠ "named") ∧ keepIn (KK w.params) (.ref f) = true
def FnM (w : World) (name : PySem.Str) (f : Addr) : Prop := nsIn (KK w.params) mainGlobals name = some (some (.ref f)) ∧ keepIn (KK w.params) (.ref f) = true ∧ (name == ("__debug__" : PySem.Str)) = false
section
variable {w : World} {A : Around} {E : Value → Shared → Prop} {h₀ : Heap} {L : Addr} {m : PySem.Str → Option Value} {env : Env} {s : Shared} {Q : Value → Shared → Prop} {news : Led} {r f : Addr} {n : Nat} {x name : PySem.Str} {p1 p2 p3 : Pos} {es : List PySem.Expr} {vs : List Value}
theorem mcall {tds : List (PySem.Str × PySem.Str)} {p : Nat} {pl : Sem Bool}
    (F : Fr h₀ L s.heap m) (X : (KK w.params).In h₀) (N : News h₀ L s.heap news) (V : FnEnv env L) (hv : argsOf m env.kindOf s.toks (.Name x p1 :: es) = some (.ref r :: vs, n)) (hR : RS news r tds p) (hM : RdM w name f)
    (he : eval (.Call (.Attribute (.Name x p1) name p2) es [] p3) env = (do
      let ov ← eval (.Name x p1) env
      standAt p2.atName
      let (f, first) ← holding [ov] (getMethod ov name pl)
      callWith p3 f first (backTo p3 (starEach es env)) []))
    (h : wpAny (model pw w) A (call (.ref f) (.ref r :: vs)) Q E { s with toks := n }) :
    wpAny (model pw w) A (eval (.Call (.Attribute (.Name x p1) name p2) es [] p3) env) Q E s := by
  obtain ⟨cn, cs, a, ccd, cl, rfl, hk⟩ := V
  obtain ⟨hg, hf, ht, hn, hkp⟩ := hM
  have h1 : argOf m (envX cn cs L a ccd cl).kindOf s.toks (.Name x p1) = some (.ref r, s.toks) ∧ argsOf m (envX cn cs L a ccd cl).kindOf s.toks es = some (vs, n) := by
    unfold argsOf at hv
    split at hv
    · rename_i v n1 h1
      split at hv
      · rename_i vs' n2 h2
        have hn1 : n1 = s.toks := argOf_name h1
        subst hn1
        cases hv
        exact ⟨h1, h2⟩
      · cases hv
    · cases hv
  exact MethodCall_ (arg_simple hk F h1.1 (rd_method F X N hR hg hf ht hn (callArgs hk F X hkp h1.2 h))) he
theorem fcall {mean : ExcName → Option Value} {mg mb : PySem.Str → Option Value} (F : Fr h₀ L s.heap m) (X : (KK w.params).In h₀) (T : Top qv (looseW qv looseV) mean mg mb h₀) (V : FnEnv env L) (hx : env.kindOf x = some .globalImplicit) (hM : FnM w x f) (hv : argsOf m env.kindOf s.toks es = some (vs, n))
    (h : wpAny (model pw w) A (call (.ref f) vs) Q E { s with toks := n }) :
    wpAny (model pw w) A (eval (.Call (.Name x p1) es [] p3) env) Q E s := by
  obtain ⟨cn, cs, a, ccd, cl, rfl, hk⟩ := V
  exact Call_ (nameX_K F X (topRead_of T) hM.1 (callArgs hk F X hM.2.1 hv h) hk hx hM.2.2)
theorem argsV {pos : Pos} {QL : List Value → Shared → Prop} (F : Fr h₀ L s.heap m) (V : FnEnv env L) (hv : argsOf m env.kindOf s.toks es = some (vs, n)) (h : QL vs { s with toks := n }) : wpAny (model pw w) A (spliced (backTo pos (starEach es env))) QL E s := by
  obtain ⟨cn, cs, a, ccd, cl, rfl, hk⟩ := V
  exact args_simple hk F hv h
theorem nameV {v : Value} (F : Fr h₀ L s.heap m) (V : FnEnv env L) (hv : argOf m env.kindOf s.toks (.Name x p1) = some (v, s.toks)) (h : Q v s) : wpAny (model pw w) A (eval (.Name x p1) env) Q E s := by
  obtain ⟨cn, cs, a, ccd, cl, rfl, hk⟩ := V
  exact arg_simple hk F hv h
end
theorem rdM_365 {w : World} {h : Heap} : ∀ (_ : rw1 = rw1) (X : (KK w.params).In h), RdM w "peek" 365 := by
  k_fill; intro _ X; exact ⟨by k_is, by k_is, by k_is, by decide, by k_is⟩
theorem rdM_379 {w : World} {h : Heap} : ∀ (_ : rw1 = rw1) (X : (KK w.params).In h), RdM w "fault" 379 := by
  k_fill; intro _ X; exact ⟨by k_is, by k_is, by k_is, by decide, by k_is⟩
theorem rdM_386 {w : World} {h : Heap} : ∀ (_ : rw1 = rw1) (X : (KK w.params).In h), RdM w "take" 386 := by
  k_fill; intro _ X; exact ⟨by k_is, by k_is, by k_is, by decide, by k_is⟩
theorem rdM_394 {w : World} {h : Heap} : ∀ (_ : rw1 = rw1) (X : (KK w.params).In h), RdM w "is_kind" 394 := by
  k_fill; intro _ X; exact ⟨by k_is, by k_is, by k_is, by decide, by k_is⟩
theorem rdM_401 {w : World} {h : Heap} : ∀ (_ : rw1 = rw1) (X : (KK w.params).In h), RdM w "is_word" 401 := by
  k_fill; intro _ X; exact ⟨by k_is, by k_is, by k_is, by decide, by k_is⟩
theorem rdM_408 {w : World} {h : Heap} : ∀ (_ : rw1 = rw1) (X : (KK w.params).In h), RdM w "skip" 408 := by
  k_fill; intro _ X; exact ⟨by k_is, by k_is, by k_is, by decide, by k_is⟩
theorem rdM_415 {w : World} {h : Heap} : ∀ (_ : rw1 = rw1) (X : (KK w.params).In h), RdM w "need" 415 := by
  k_fill; intro _ X; exact ⟨by k_is, by k_is, by k_is, by decide, by k_is⟩
theorem rdM_422 {w : World} {h : Heap} : ∀ (_ : rw1 = rw1) (X : (KK w.params).In h), RdM w "one_of" 422 := by
  k_fill; intro _ X; exact ⟨by k_is, by k_is, by k_is, by decide, by k_is⟩
theorem rdM_437 {w : World} {h : Heap} : ∀ (_ : rw1 = rw1) (X : (KK w.params).In h), RdM w "is_name" 437 := by
  k_fill; intro _ X; exact ⟨by k_is, by k_is, by k_is, by decide, by k_is⟩
theorem rdM_444 {w : World} {h : Heap} : ∀ (_ : rw1 = rw1) (X : (KK w.params).In h), RdM w "name" 444 := by
  k_fill; intro _ X; exact ⟨by k_is, by k_is, by k_is, by decide, by k_is⟩
theorem rdM_459 {w : World} {h : Heap} : ∀ (_ : rw1 = rw1) (X : (KK w.params).In h), RdM w "is_sign" 459 := by
  k_fill; intro _ X; exact ⟨by k_is, by k_is, by k_is, by decide, by k_is⟩
theorem rdM_466 {w : World} {h : Heap} : ∀ (_ : rw1 = rw1) (X : (KK w.params).In h), RdM w "skip_sign" 466 := by
  k_fill; intro _ X; exact ⟨by k_is, by k_is, by k_is, by decide, by k_is⟩
theorem rdM_473 {w : World} {h : Heap} : ∀ (_ : rw1 = rw1) (X : (KK w.params).In h), RdM w "need_sign" 473 := by
  k_fill; intro _ X; exact ⟨by k_is, by k_is, by k_is, by decide, by k_is⟩
theorem rdM_480 {w : World} {h : Heap} : ∀ (_ : rw1 = rw1) (X : (KK w.params).In h), RdM w "is_number" 480 := by
  k_fill; intro _ X; exact ⟨by k_is, by k_is, by k_is, by decide, by k_is⟩
theorem rdM_487 {w : World} {h : Heap} : ∀ (_ : rw1 = rw1) (X : (KK w.params).In h), RdM w "signed" 487 := by
  k_fill; intro _ X; exact ⟨by k_is, by k_is, by k_is, by decide, by k_is⟩
theorem rdM_508 {w : World} {h : Heap} : ∀ (_ : rw1 = rw1) (X : (KK w.params).In h), RdM w "octets" 508 := by
  k_fill; intro _ X; exact ⟨by k_is, by k_is, by k_is, by decide, by k_is⟩
theorem fnM_29 {w : World} {h : Heap} : ∀ (_ : rw1 = rw1) (X : (KK w.params).In h), FnM w "is_part_next" 29 := by
  k_fill; intro _ X; exact ⟨by k_is, by k_is, by decide⟩
theorem fnM_36 {w : World} {h : Heap} : ∀ (_ : rw1 = rw1) (X : (KK w.params).In h), FnM w "read_subscripts" 36 := by
  k_fill; intro _ X; exact ⟨by k_is, by k_is, by decide⟩
theorem fnM_50 {w : World} {h : Heap} : ∀ (_ : rw1 = rw1) (X : (KK w.params).In h), FnM w "read_ref" 50 := by
  k_fill; intro _ X; exact ⟨by k_is, by k_is, by decide⟩
theorem fnM_57 {w : World} {h : Heap} : ∀ (_ : rw1 = rw1) (X : (KK w.params).In h), FnM w "read_all" 57 := by
  k_fill; intro _ X; exact ⟨by k_is, by k_is, by decide⟩
theorem fnM_64 {w : World} {h : Heap} : ∀ (_ : rw1 = rw1) (X : (KK w.params).In h), FnM w "read_figure" 64 := by
  k_fill; intro _ X; exact ⟨by k_is, by k_is, by decide⟩
theorem fnM_71 {w : World} {h : Heap} : ∀ (_ : rw1 = rw1) (X : (KK w.params).In h), FnM w "read_operand" 71 := by
  k_fill; intro _ X; exact ⟨by k_is, by k_is, by decide⟩
theorem fnM_139 {w : World} {h : Heap} : ∀ (_ : rw1 = rw1) (X : (KK w.params).In h), FnM w "decimal" 139 := by
  k_fill; intro _ X; exact ⟨by k_is, by k_is, by decide⟩
theorem fnM_181 {w : World} {h : Heap} : ∀ (_ : rw1 = rw1) (X : (KK w.params).In h), FnM w "read_decimal" 181 := by
  k_fill; intro _ X; exact ⟨by k_is, by k_is, by decide⟩
theorem fnM_174 {w : World} {h : Heap} : ∀ (_ : rw1 = rw1) (X : (KK w.params).In h), FnM w "worth_of" 174 := by
  k_fill; intro _ X; exact ⟨by k_is, by k_is, by decide⟩
theorem fnM_188 {w : World} {h : Heap} : ∀ (_ : rw1 = rw1) (X : (KK w.params).In h), FnM w "read_expression" 188 := by
  k_fill; intro _ X; exact ⟨by k_is, by k_is, by decide⟩
theorem fnM_195 {w : World} {h : Heap} : ∀ (_ : rw1 = rw1) (X : (KK w.params).In h), FnM w "sign_among" 195 := by
  k_fill; intro _ X; exact ⟨by k_is, by k_is, by decide⟩
theorem fnM_202 {w : World} {h : Heap} : ∀ (_ : rw1 = rw1) (X : (KK w.params).In h), FnM w "read_sum" 202 := by
  k_fill; intro _ X; exact ⟨by k_is, by k_is, by decide⟩
theorem fnM_209 {w : World} {h : Heap} : ∀ (_ : rw1 = rw1) (X : (KK w.params).In h), FnM w "read_product" 209 := by
  k_fill; intro _ X; exact ⟨by k_is, by k_is, by decide⟩
theorem fnM_216 {w : World} {h : Heap} : ∀ (_ : rw1 = rw1) (X : (KK w.params).In h), FnM w "read_factor" 216 := by
  k_fill; intro _ X; exact ⟨by k_is, by k_is, by decide⟩
theorem fnM_230 {w : World} {h : Heap} : ∀ (_ : rw1 = rw1) (X : (KK w.params).In h), FnM w "read_power" 230 := by
  k_fill; intro _ X; exact ⟨by k_is, by k_is, by decide⟩
theorem fnM_237 {w : World} {h : Heap} : ∀ (_ : rw1 = rw1) (X : (KK w.params).In h), FnM w "read_primary" 237 := by
  k_fill; intro _ X; exact ⟨by k_is, by k_is, by decide⟩
theorem fnM_244 {w : World} {h : Heap} : ∀ (_ : rw1 = rw1) (X : (KK w.params).In h), FnM w "word_ahead" 244 := by
  k_fill; intro _ X; exact ⟨by k_is, by k_is, by decide⟩
theorem fnM_251 {w : World} {h : Heap} : ∀ (_ : rw1 = rw1) (X : (KK w.params).In h), FnM w "phrase_words" 251 := by
  k_fill; intro _ X; exact ⟨by k_is, by k_is, by decide⟩
theorem fnM_258 {w : World} {h : Heap} : ∀ (_ : rw1 = rw1) (X : (KK w.params).In h), FnM w "opening_length" 258 := by
  k_fill; intro _ X; exact ⟨by k_is, by k_is, by decide⟩
theorem fnM_265 {w : World} {h : Heap} : ∀ (_ : rw1 = rw1) (X : (KK w.params).In h), FnM w "body_here" 265 := by
  k_fill; intro _ X; exact ⟨by k_is, by k_is, by decide⟩
theorem fnM_272 {w : World} {h : Heap} : ∀ (_ : rw1 = rw1) (X : (KK w.params).In h), FnM w "branches_here" 272 := by
  k_fill; intro _ X; exact ⟨by k_is, by k_is, by decide⟩
theorem fnM_279 {w : World} {h : Heap} : ∀ (_ : rw1 = rw1) (X : (KK w.params).In h), FnM w "begins_operand" 279 := by
  k_fill; intro _ X; exact ⟨by k_is, by k_is, by decide⟩
theorem fnM_286 {w : World} {h : Heap} : ∀ (_ : rw1 = rw1) (X : (KK w.params).In h), FnM w "read_mode" 286 := by
  k_fill; intro _ X; exact ⟨by k_is, by k_is, by decide⟩
theorem fnM_293 {w : World} {h : Heap} : ∀ (_ : rw1 = rw1) (X : (KK w.params).In h), FnM w "read_args" 293 := by
  k_fill; intro _ X; exact ⟨by k_is, by k_is, by decide⟩
theorem fnM_300 {w : World} {h : Heap} : ∀ (_ : rw1 = rw1) (X : (KK w.params).In h), FnM w "read_call" 300 := by
  k_fill; intro _ X; exact ⟨by k_is, by k_is, by decide⟩
theorem fnM_337 {w : World} {h : Heap} : ∀ (_ : rw1 = rw1) (X : (KK w.params).In h), FnM w "is_reserved" 337 := by
  k_fill; intro _ X; exact ⟨by k_is, by k_is, by decide⟩
theorem fnM_342 {w : World} {h : Heap} : ∀ (_ : rw1 = rw1) (X : (KK w.params).In h), FnM w "octets_of_text" 342 := by
  k_fill; intro _ X; exact ⟨by k_is, by k_is, by decide⟩
theorem fnM_522 {w : World} {h : Heap} : ∀ (_ : rw1 = rw1) (X : (KK w.params).In h), FnM w "_law_draw" 522 := by
  k_fill; intro _ X; exact ⟨by k_is, by k_is, by decide⟩
theorem fnM_527 {w : World} {h : Heap} : ∀ (_ : rw1 = rw1) (X : (KK w.params).In h), FnM w "_law_source" 527 := by
  k_fill; intro _ X; exact ⟨by k_is, by k_is, by decide⟩
theorem fnM_547 {w : World} {h : Heap} : ∀ (_ : rw1 = rw1) (X : (KK w.params).In h), FnM w "_law_REFS" 547 := by
  k_fill; intro _ X; exact ⟨by k_is, by k_is, by decide⟩
theorem fnM_561 {w : World} {h : Heap} : ∀ (_ : rw1 = rw1) (X : (KK w.params).In h), FnM w "_law_pick" 561 := by
  k_fill; intro _ X; exact ⟨by k_is, by k_is, by decide⟩
theorem fnM_568 {w : World} {h : Heap} : ∀ (_ : rw1 = rw1) (X : (KK w.params).In h), FnM w "_law_tokens" 568 := by
  k_fill; intro _ X; exact ⟨by k_is, by k_is, by decide⟩
theorem fnM_582 {w : World} {h : Heap} : ∀ (_ : rw1 = rw1) (X : (KK w.params).In h), FnM w "_law_heard" 582 := by
  k_fill; intro _ X; exact ⟨by k_is, by k_is, by decide⟩
theorem fnM_610 {w : World} {h : Heap} : ∀ (_ : rw1 = rw1) (X : (KK w.params).In h), FnM w "_law_args" 610 := by
  k_fill; intro _ X; exact ⟨by k_is, by k_is, by decide⟩
section
variable {w : World} {A : Around} {E : Value → Shared → Prop} {h₀ : Heap} {L : Addr} {m : PySem.Str → Option Value} {env : Env} {s : Shared} {news : Led} {x : PySem.Str} {v : Value}
theorem storeV {Q : Unit → Shared → Prop} (F : Fr h₀ L s.heap m) (N : News h₀ L s.heap news) (V : FnEnv env L) (hx : env.kindOf x = some .local) (h : ∀ h', Fr h₀ L h' (fun y => if y = x then some v else m y) → News h₀ L h' news → Q () { s with heap := h', toks := s.toks + 1 }) : wpAny (model pw w) A (storeName env x v) Q E s := by
  obtain ⟨cn, cs, a, ccd, cl, rfl, hk⟩ := V
  exact storeX_L F N h hk hx
end
def nextQ (w : World) (A : Around) (rest : List Stmt) (env : Env) (Q : Flow → Shared → Prop) (E : Value → Shared → Prop) : Flow → Shared → Prop := fun f s' => match f with
  | .next => wpAny (model pw w) A (execs rest env) Q E s'
  | f => Q f s'
section
variable {w : World} {A : Around} {rest : List Stmt} {st : Stmt} {env : Env} {Q : Flow → Shared → Prop} {E : Value → Shared → Prop} {s : Shared} {v : Value}
theorem execsV (h : wpAny (model pw w) A (exec st env) (nextQ w A rest env Q E) E s) : wpAny (model pw w) A (execs (st :: rest) env) Q E s := wpAny_execs_cons h
theorem execs1 (h : wpAny (model pw w) A (exec st env) Q E s) : wpAny (model pw w) A (execs [st] env) Q E s :=
  wpAny_execs_cons (wpAny_mono h (fun f s' h' => by cases f <;> first | exact wpAny_execs_nil h' | exact h') (fun _ _ z => z))
theorem nextQ_next (h : wpAny (model pw w) A (execs rest env) Q E s) : nextQ w A rest env Q E .next s := h
theorem nextQ_ret (h : Q (.ret v) s) : nextQ w A rest env Q E (.ret v) s := h
theorem nextQ_brk (h : Q .brk s) : nextQ w A rest env Q E .brk s := h
theorem nextQ_cont (h : Q .cont s) : nextQ w A rest env Q E .cont s := h
end
def resR (Q E : Value → Shared → Prop) : Result → Shared → Prop := fun r s' => match r with
  | .ok (.ret v) => Q v s'
  | .ok _ => False
  | .error e => E e s'
def outQ (h₀ : Heap) (L : Addr) (m : PySem.Str → Option Value) (g : Heap) (R : Result → Shared → Prop) : Flow → Shared → Prop := fun fl s' => LeaveK h₀ L m g R (match fl with | .ret v => v | _ => .none) s'
def outE (w : World) (A : Around) (env : Env) (R : Result → Shared → Prop) : Value → Shared → Prop := fun e s' => wpAny (model pw w) A (leaving env e) (fun _ s'' => R (.error e) s'') (fun e' s'' => R (.error e') s'') s'
section
variable {w : World} {A : Around} {env : Env} {Q E : Value → Shared → Prop} {s : Shared} {v e : Value} {h₀ g : Heap} {L : Addr} {m : PySem.Str → Option Value} {R : Result → Shared → Prop}
theorem resR_ret (h : Q v s) : resR Q E (.ok (.ret v)) s := h
theorem resR_err (h : E v s) : resR Q E (.error v) s := h
theorem outQ_ret (h : LeaveK h₀ L m g R v s) : outQ h₀ L m g R (.ret v) s := h
theorem outQ_next (h : LeaveK h₀ L m g R .none s) : outQ h₀ L m g R .next s := h
theorem outE_go (h : wpAny (model pw w) A (leaving env e) (fun _ s'' => R (.error e) s'') (fun e' s'' => R (.error e') s'') s) : outE w A env R e s := h
end
end Mine
end

section
open PySem PySem.W PyProof.Rows
set_option maxRecDepth 100000
namespace Mine
theorem reg_Co2_0 : True := by
  k_with_none
  (k_with "room" => (first | exact room_le (by assumption) rfl rfl | ktr_room | ktr_units))
  (k_with "room0" => (first | exact room_lt (by assumption) rfl | ktr_room | (simp only [A9, depth_under_make, depth_deeper]; omega)))
  (k_with "sR" => (simp only [Int.reduceAdd, Int.reduceToNat, Nat.add_zero, Nat.zero_add, Nat.add_assoc, Nat.reduceAdd] at hR'))
  (k_with "sB" => (simp only [Int.reduceAdd, Int.reduceToNat, Nat.add_zero, Nat.zero_add, Nat.add_assoc, Nat.reduceAdd] at hb'))
  (k_with "fold" => ((fail_if_success (fail_if_success k_fold)); refine' (let qk := _; (?_ : wpAny _ _ _ qk _ _))))
  (k_with "nextQ" => (first | with_reducible refine nextQ_next ?_ | with_reducible refine nextQ_ret ?_ | with_reducible refine nextQ_brk ?_ | with_reducible refine nextQ_cont ?_))
  (k_with "outQ" => (first | with_reducible refine outQ_ret ?_ | with_reducible refine outQ_next ?_))
  (k_with "outE" => (with_reducible refine outE_go ?_))
  (k_with "resR" => (first | with_reducible refine resR_ret ?_ | with_reducible refine resR_err ?_))
  (k_with "rdM" => (first | exact rdM_365 rfl X | exact rdM_379 rfl X | exact rdM_386 rfl X | exact rdM_394 rfl X | exact rdM_401 rfl X | exact rdM_408 rfl X | exact rdM_415 rfl X | exact rdM_422 rfl X | exact rdM_437 rfl X | exact rdM_444 rfl X | exact rdM_459 rfl X | exact rdM_466 rfl X | exact rdM_473 rfl X | exact rdM_480 rfl X | exact rdM_487 rfl X | exact rdM_508 rfl X))
  (k_with "fnM" => (first | exact fnM_29 rfl X | exact fnM_36 rfl X | exact fnM_50 rfl X | exact fnM_57 rfl X | exact fnM_64 rfl X | exact fnM_71 rfl X | exact fnM_139 rfl X | exact fnM_181 rfl X | exact fnM_174 rfl X | exact fnM_188 rfl X | exact fnM_195 rfl X | exact fnM_202 rfl X | exact fnM_209 rfl X | exact fnM_216 rfl X | exact fnM_230 rfl X | exact fnM_237 rfl X | exact fnM_244 rfl X | exact fnM_251 rfl X | exact fnM_258 rfl X | exact fnM_265 rfl X | exact fnM_272 rfl X | exact fnM_279 rfl X | exact fnM_286 rfl X | exact fnM_293 rfl X | exact fnM_300 rfl X | exact fnM_337 rfl X | exact fnM_342 rfl X | exact fnM_522 rfl X | exact fnM_527 rfl X | exact fnM_547 rfl X | exact fnM_561 rfl X | exact fnM_568 rfl X | exact fnM_582 rfl X | exact fnM_610 rfl X))
  (k_with "newTuple" => (walk_at "nt on"; k_here; kup_bare; k_dflt (refine' kup_newTuple ?F ?N ?_ ?z; (case F => k_asm); (case N => k_asm); (case z => kmk_size)); refine' (fun D' h' => let nn9 : Led := _; fun F' (N' : News _ _ _ nn9) l1 => ?_); (try k_lt l1); (try k_sweep)))
  (k_with "newList" => (walk_at "nt on"; k_here; k_dflt (refine' newList_K ?k1 ?k2 ?_; (case k1 => k_asm); (case k2 => k_asm); k_whole); refine' (fun l' h' => let nn9 : Led := _; fun F' (N' : News _ _ _ nn9) l1 => ?_); (try k_lt l1); (try k_sweep)))
  (k_with "storeName" => (k_here; with_reducible (refine' storeV ?k1 ?k2 ?hV ?hx ?_; (case hV => assumption); k_dflt ((case k1 => k_asm); (case k2 => k_asm); (case hx => exact rfl); k_whole)); refine' (let mm9 : PySem.Str → Option Value := _; fun h' (F' : Fr _ _ h' mm9) N' => ?_); (try k_sweep)))
  (k_with "spliced" => (k_here; (with_reducible show wpAny _ _ (spliced (backTo _ (starEach (_ :: _) _))) _ _ _); with_reducible (refine' argsV ?k1 ?hV ?hv ?_; (case hV => assumption); k_dflt ((case k1 => k_asm); (case hv => first | exact rfl | with_unfolding_all rfl); k_whole))))
  (k_with "eval Name" => (k_here; with_reducible (refine' nameV ?k1 ?hV ?hv ?_; (case hV => assumption); k_dflt ((case k1 => k_asm); (case hv => first | exact rfl | with_unfolding_all rfl); k_whole))))
  (k_with "eval Call" => (k_here; (with_reducible show wpAny _ _ (eval (Expr.Call (Expr.Name _ _) _ [] _) _) _ _ _); (try walk_at "fold"); with_reducible (refine' fcall ?k1 ?k2 ?k3 ?hV ?hx ?hM ?hv ?_; (case hM => walk_at "fnM"); (case hV => assumption); k_dflt ((case hx => exact rfl); (case k1 => k_asm); (case k2 => k_asm); (case k3 => k_asm); (case hv => first | exact rfl | with_unfolding_all rfl); k_whole))))
  (k_with "eval Call Attribute" => (k_here; (with_reducible show wpAny _ _ (eval (Expr.Call (Expr.Attribute (Expr.Name _ _) _ _) _ [] _) _) _ _ _); (try walk_at "fold"); with_reducible (refine' mcall ?k1 ?k2 ?k3 ?hV ?hv ?hR ?hM ?he ?_; (case hM => walk_at "rdM"); (case hV => assumption); k_dflt ((case k1 => k_asm); (case k2 => k_asm); (case k3 => k_asm); (case hv => first | exact rfl | with_unfolding_all rfl); (case hR => walk_at "RS"); (case he => exact rfl); k_whole))))
  (k_with "nt on" => ((fail_if_success walk_at "off_Co2"); (skip)))
  (k_with "execs cons" => (k_here; first | (with_reducible refine execs1 ?_) | (refine execsV ?_; walk_at "fold")))
  (k_with "ktr_enter" => (refine' code_def ?k1 ?k2 ?k3 ?k4 ?k5 ?kA ?kF ?kK ?k6 ?k7 ?k8 ?k9 ?kB ?_ ?c2 ?c3 ?c4 ?c5; (case kA => exact rfl); (case kF => exact rfl); (case kK => assumption); (case k1 => k_asm); (case k2 => k_asm); (case k3 => k_asm); (case k4 => k_asm); (case k5 => k_asm); (case k6 => k_is); (case k7 => k_is); (case k8 => walk_at "room0"); (case k9 => (rename Binds _ _ _ _ => hbX; exact hbX _ (by k_in))); (case c5 => decide); (case kB => exact locs rfl); (case c2 => exact rfl); (case c3 => exact rfl); (case c4 => exact rfl); k_whole; intro g' L' h' FG'; refine' (let mm9 : PySem.Str → Option Value := _; fun (F' : Fr _ _ _ mm9) N' B' X' T' => ?_); (try dsimp only); refine' (let e9 : PySem.Env := _; let A9 : PySem.Around := PySem.Around.deeper _ e9; let rk := resR _ _; let qk := outQ _ _ _ _ rk; let ek := outE _ A9 e9 rk; (?_ : wpAny _ A9 (execs _ e9) qk ek _)); (have hV9 : FnEnv e9 _ := FnEnv.of (by exact rfl))))
  (k_with "call builtin:len" => (k_here; (with_reducible show wpAny _ _ (call (Value.builtin "len") [Value.ref _]) _ _ _); k_dflt (refine' len_led ?k1 ?k2 ?k3 ?_; (case k1 => k_asm); (case k2 => k_mem); (case k3 => assumption); k_whole)))
  (k_with "subscriptTail" => (k_here; (with_reducible show wpAny _ _ (subscriptTail _ _ (Value.ref _) (Value.int _ _)) _ _ _); k_dflt (refine' item_led ?k1 ?k2 ?k3 ?k4 ?k5 ?_ ?k6; (case k1 => k_asm); (case k2 => k_mem); (case k3 => assumption); (case k4 => omega); (case k5 => omega); (case k6 => with_unfolding_all rfl); k_whole); intro vI hI))
  (k_with "RS" => (first | assumption | exact RS.sub1 (by assumption) | exact RS.sub1 (RS.sub1 (by assumption)) | exact RS.sub1 (RS.sub1 (RS.sub1 (by assumption))) | exact RS.sub1 (RS.sub1 (RS.sub1 (RS.sub1 (by assumption)))) | exact RS.sub1 (RS.sub1 (RS.sub1 (RS.sub1 (RS.sub1 (by assumption))))) | exact RS.sub1 (RS.sub1 (RS.sub1 (RS.sub1 (RS.sub1 (RS.sub1 (by assumption))))))))
  (k_with "gotn" => (first | ((fail_if_success (intro v' n' h' tk' F' N' hv'; simp only [Int.reduceAdd, Int.reduceToNat, Nat.add_zero, Nat.zero_add, Nat.add_assoc, Nat.reduceAdd] at hv')); first | (with_reducible refine got_v ?_; intro h' tk' F' N') | (with_reducible refine' got_pk ?ho ?_; (case ho => with_reducible assumption); intro x' dx' ta' t1' t2' tn' e' tt' nn' h' tk' F' N' hx' hdx' hta') | (with_reducible refine got_pn ?ho ?_; (case ho => with_reducible assumption); intro h' tk' F' N') | (with_reducible refine got_ps ?hn ?_; (case hn => exact (fun h9 => no_kind h9 (by with_reducible assumption))); intro td' x' dx' ta' t1' t2' tn' e' tt' nn' h' tk' F' N' ht' hx' hdx' hta') | (with_reducible refine got_p2 (fun ht' h' tk' F' N' => ?_) (fun td' x' dx' ta' t1' t2' tn' e' tt' nn' h' tk' F' N' ht' hx' hdx' hta' => ?_)) | (with_reducible refine got_x ?_; intro t' h' tk' F' N')) | (with_reducible refine got_tk ?_; intro x' dx' ta' t1' t2' tn' e' tt' nn' n' h' tk' F' N' hR' hK' hx' hdx' hta'; (try walk_at "sR")) | (with_reducible refine got_xm ?_; intro t' n' h' tk' F' N' hR' hK'; (try walk_at "sR")) | (with_reducible refine got_vm ?_; intro n' h' tk' F' N' hR' hK'; (try walk_at "sR")) | (with_reducible refine got_skF ?hn ?_; (case hn => first | exact (fun h9 => no_bool h9 (by assumption)) | exact (fun h9 => no_tokIs (by assumption) h9 (by first | rfl | decide))); intro hb' h' tk' F' N'; (try walk_at "sB")) | (with_reducible refine got_skT ?hn ?_; (case hn => first | exact (fun h9 => no_bool (by assumption) h9) | exact (fun h9 => no_tokIs' (by assumption) h9 (by first | rfl | decide))); intro hb' n' h' tk' F' N' hR' hK'; (try walk_at "sR"); (try walk_at "sB")) | ((with_reducible refine got_sk (fun hb' n' h' tk' F' N' hR' hK' => ?_) (fun hb' h' tk' F' N' => ?_)) <;> ((try walk_at "sR"); (try walk_at "sB"))) | (refine got_xs ?_; intro t' n' h' tk' F' N' hs'; (fail_if_success (have h9 := And.left hs')); (try (have hR' := RS.sub (by walk_at "RS") hs'))) | (refine got_tp ?_; intro a' t1' t2' n' h' tk' F' N' hm' hs'; (fail_if_success (have h9 := And.left hs')); (try (have hR' := RS.sub (by walk_at "RS") hs')))))
  (k_with "got" => (first | walk_at "gotn" | (intro v' n' h' tk' F' N' hv'; simp only [Int.reduceAdd, Int.reduceToNat, Nat.add_zero, Nat.zero_add, Nat.add_assoc, Nat.reduceAdd] at hv'; revert v' n' h' tk' F' N' hv'; walk_at "gotn") | (intro v' n' h' tk' F' N' hv'; (try simp only [Int.reduceAdd, Int.reduceToNat, Nat.add_zero, Nat.zero_add, Nat.add_assoc, Nat.reduceAdd] at hv'); revert hv'; walk_at "got more")))
  (k_with "call ref" => (k_here; (with_reducible show wpAny _ _ (call (Value.ref _) _) _ _ _); (try walk_at "fold"); k_dflt (refine' Does.use0 ?H ?k1 ?k2 ?k3 ?k4 ?k5 ?k6 ?kd ?ku ?_; (case k1 => k_asm); (case k2 => k_asm); (case k3 => k_asm); (case k4 => k_asm); (case k5 => k_asm); (case H => ((try dsimp only [List.cons_append, List.nil_append]); walk_at "does")); (case k6 => first | rfl | assumption); (case kd => walk_at "room"); (case ku => walk_at "room"); k_whole); k_dflt (walk_at "got")))
  (k_with "does" => first | with_reducible exact peek_does _ _ _ _ _ _ _ (by walk_at "RS") (by first | with_reducible assumption | decide | omega) | with_reducible exact peek_does0 _ _ _ _ _ (by walk_at "RS"))
  trivial
def kindAt (tds : List (PySem.Str × PySem.Str)) (i : Nat) (k : PySem.Str) : Bool := match tds[i]? with | some td => td.1 == k | none => false
set_option maxHeartbeats 4000000 in
theorem is_kind_b (w : World) (vs : List Value) (r : Addr) (news : Led) (tds : List (PySem.Str × PySem.Str)) (p : Nat) (k : PySem.Str) (tk : Nat) (j : Int) (tj : Nat) (hb : Binds w ob394 vs [("self", .ref r), ("kind", .str k tk), ("ahead", .int j tj)]) (hR : RS news r tds p) (hj : 0 ≤ j) :
    Does w 394 vs 30 260 news (fun v news' => news = news' ∧ v = .bool (kindAt tds (p + j.toNat) k)) (fun _ _ => False) := by
  refine RS.elim hR fun rd tl e t nv n h1 h2 => ?_
  unfold Does
  k_fill
  intro _ dp un gd cn cs a ccd cl outer A₀ base h₀ L m mg mb mean s Q E B F X N T hk hd hu hret herr
  refine wpAny_call ?_
  k_dflt ktr_enter
  k_steps
  · refine hret _ _ _ _ (by k_asm) (by k_asm) ⟨rfl, ?_⟩
    have ht : tds[p + j.toNat]? = none := by assumption
    unfold kindAt; rw [ht]
  · refine hret _ _ _ _ (by k_asm) (by k_asm) ⟨rfl, ?_⟩
    unfold kindAt
    simp only [*]
theorem is_kind_does (w : World) (r : Addr) (news : Led) (tds : List (PySem.Str × PySem.Str)) (p : Nat) (k : PySem.Str) (tk : Nat) (j : Int) (tj : Nat) (hR : RS news r tds p) (hj : 0 ≤ j) :
    Does w 394 [.ref r, .str k tk, .int j tj] 30 260 news (fun v news' => news = news' ∧ v = .bool (kindAt tds (p + j.toNat) k)) (fun _ _ => False) := is_kind_b w _ r news tds p k tk j tj (.dflt 387 rfl rfl rfl rfl rfl) hR hj
theorem is_kind_does0 (w : World) (r : Addr) (news : Led) (tds : List (PySem.Str × PySem.Str)) (p : Nat) (k : PySem.Str) (tk : Nat) (hR : RS news r tds p) :
    Does w 394 [.ref r, .str k tk] 30 260 news (fun v news' => news = news' ∧ v = .bool (kindAt tds p k)) (fun _ _ => False) := by
  exact is_kind_b w _ r news tds p k tk 0 _ (.dflt 387 rfl rfl rfl rfl rfl) hR (by decide)
end Mine
theorem off_Co2 : True := by
  (k_with "off_Co2" => skip)
  trivial
end

section
open PySem PySem.W PyProof.Rows
set_option maxRecDepth 100000
namespace Mine
theorem reg_Co3_0 : True := by
  (k_with "nt on" => ((fail_if_success walk_at "off_Co3"); (skip)))
  (k_with "does" => first | with_reducible exact is_kind_does _ _ _ _ _ _ _ _ _ (by walk_at "RS") (by first | with_reducible assumption | decide | omega) | with_reducible exact is_kind_does0 _ _ _ _ _ _ _ (by walk_at "RS"))
  trivial
def isRd (o : Obj) : Bool := match o.data with
  | .dict es _ => (match es.toList with
    | ⟨_, .str k _, _⟩ :: _ => k == ("tokens" : PySem.Str)
    | _ => false)
  | _ => false
def Keep (news news' : Led) : Prop := ∀ q ∈ news, isRd q.2 = false → q ∈ news'
theorem Keep.refl {news : Led} : Keep news news := fun _ h _ => h
theorem Keep.trans {a b c : Led} (x : Keep a b) (y : Keep b c) : Keep a c := fun q h i => y q (x q h i) i
section
variable {prog : Program} {w : World} {A A₀ : Around} {E : Value → Shared → Prop} {s : Shared} {K : Frag} {x C dx L : Addr} {h₀ : Heap} {m : PySem.Str → Option Value} {news : Led} {ox od : Obj} {es es' : List DictEntry} {n n' : Nat} {name : PySem.Str} {v : Value}
theorem set_led {Q : Unit → Shared → Prop} (F : Fr h₀ L s.heap m) (X₀ : K.In h₀) (N : News h₀ L s.heap news) (I : InstAt s.heap x ox C (some (dictOf es n))) (hd : ox.dict = some dx) (hm : (dx, dictOf es n) ∈ news)
    (hs : findIn K (.ref C) "__setattr__" = some (some (.builtin "object.__setattr__"))) (hp : plainOver K C = true) (ht : takerIn K C name = some none) (hh : hasDictIn K C = true) (hl : (getL name es).isSome = true)
    (e : (putL name (PyData.keyHash w.params name) (.str name (s.toks + 1)) v es, putN name es n) = (es', n')) (hz : es'.length ≤ 1000)
    (h : ∀ h' news', Fr h₀ L h' m → News h₀ L h' news' → (dx, dictOf es' n') ∈ news' → (∀ q ∈ news, q.2 ≠ dictOf es n → q ∈ news') → Q () { s with heap := h', toks := s.toks + 2 }) :
    wpAny (model prog w) A (setAttr (.ref x) name v) Q E s := by
  have N2 : News h₀ L s.heap ((dx, dictOf es n) :: news.filter (fun q => q.1 != dx)) := by
    intro q hq
    rcases List.mem_cons.mp hq with rfl | hq
    · exact N _ hm
    · exact N q ((List.mem_filter.mp hq).1)
  refine set_dict F X₀ N2 I hd hs hp ht hh hl e (Upd.head ?_) hz fun h' F' N' => h h' _ F' N' (.head _) fun q hq hne => ?_
  · intro p hp'
    have := (List.mem_filter.mp hp').2
    simpa using this
  · refine List.mem_cons_of_mem _ (List.mem_filter.mpr ⟨hq, ?_⟩)
    have : q.1 ≠ dx := by
      intro z
      have a := (N q hq).1
      rw [z, (N _ hm).1] at a
      exact hne (Option.some.inj a).symm
    simpa using this
end
theorem isRd_ne {o : Obj} {e : Int × Int × Int} {t : Nat × Nat × Nat × Nat} {tl : Addr} {p : Int} {nv : Value} {n : Nat} (h : isRd o = false) : o ≠ rdObj e t tl p nv n := by
  rintro rfl
  have : isRd (rdObj e t tl p nv n) = true := by
    exact beq_self_eq_true ("tokens" : PySem.Str)
  rw [this] at h; cases h
set_option maxHeartbeats 4000000 in
theorem set_at : ∀ (_ : rw1 = rw1) {prog : Program} {w : World} {A : Around} {E : Value → Shared → Prop} {s : Shared} {L r rd tl : Addr} {h₀ : Heap} {m : PySem.Str → Option Value} {news : Led} {e : Int × Int × Int} {t : Nat × Nat × Nat × Nat} {p q : Int} {nv : Value} {n tq : Nat} {Q : Unit → Shared → Prop}
    (F : Fr h₀ L s.heap m) (X : (KK w.params).In h₀) (N : News h₀ L s.heap news) (h1 : (r, instObj 511 rd) ∈ news) (h2 : (rd, rdObj e t tl p nv n) ∈ news)
    (h : ∀ h' news', Fr h₀ L h' m → News h₀ L h' news' → (rd, rdObj e (t.1, t.2.1, tq, t.2.2.2) tl q nv n) ∈ news' → Keep news news' → Q () { s with heap := h', toks := s.toks + 2 }),
    wpAny (model prog w) A (setAttr (.ref r) "at" (.int q tq)) Q E s := by
  k_fill
  intro _ prog w A E s L r rd tl h₀ m news e t p q nv n tq Q F X N h1 h2 h
  refine set_led (K := KK w.params) (C := 511) (es' := [⟨e.1, .str "tokens" t.1, .ref tl⟩, ⟨e.2.1, .str "at" t.2.1, .int q tq⟩, ⟨e.2.2, .str "named" t.2.2.2, nv⟩]) (n' := n) F X N (InstAt.of_news N h1 h2) rfl h2 ?k6 ?k7 ?k8 ?k9 ?k10 ?k11 (Nat.le_of_ble_eq_true rfl) fun h' news' F' N' hm hk => h h' news' F' N' hm fun q hq hi => hk q hq (isRd_ne hi)
  case k6 => k_dflt k_is
  case k7 => k_dflt k_is
  case k8 => k_dflt k_is
  case k9 => k_dflt k_is
  case k10 => rfl
  case k11 => rfl
theorem reg_Co3_1 : True := by
  (k_with "setAttr ref" => (k_here; k_dflt (refine' set_at rfl ?k1 ?k2 ?k3 ?k4 ?k5 ?_; (case k1 => k_asm); (case k2 => k_asm); (case k3 => k_asm); (case k4 => k_mem); (case k5 => k_mem); k_whole); intro h' n' F' N' hm' hk'))
  trivial
theorem TokAt.keep {news news' : Led} {x : Addr} {i : Nat} {td : PySem.Str × PySem.Str} (h : TokAt news x i td) (k : Keep news news') : TokAt news' x i td := by
  obtain ⟨dx, ta, t1, t2, tn, e, t, n, a, b, c⟩ := h
  exact ⟨dx, ta, t1, t2, tn, e, t, n, k _ a rfl, k _ b (by show (("kind" : PySem.Str) == ("tokens" : PySem.Str)) = false; decide +kernel), k _ c rfl⟩
theorem RS.keep {news news' : Led} {r : Addr} {tds : List (PySem.Str × PySem.Str)} {q : Nat} {rd tl : Addr} {toks : List Value} {e : Int × Int × Int} {t : Nat × Nat × Nat × Nat} {nv : Value} {n ln : Nat}
    (h1 : (r, instObj 511 rd) ∈ news) (h3 : (tl, W.listOf (List.toArray toks) ln) ∈ news) (hl : toks.length = tds.length) (hz : toks.length ≤ 1000) (ht : ∀ (i : Nat) td, tds[i]? = some td → ∃ x, toks[i]? = some (.ref x) ∧ TokAt news x i td)
    (k : Keep news news') (h2 : (rd, rdObj e t tl (q : Int) nv n) ∈ news') : RS news' r tds q :=
  ⟨rd, tl, toks, e, t, nv, n, ln, k _ h1 rfl, h2, k _ h3 rfl, hl, hz, fun i td hi => let ⟨x, a, b⟩ := ht i td hi; ⟨x, a, b.keep k⟩⟩
theorem no_tok {o : Option (PySem.Str × PySem.Str)} {td : PySem.Str × PySem.Str} (h : o = none) (h' : o = some td) : False := by rw [h] at h'; cases h'
theorem same_tok {o : Option (PySem.Str × PySem.Str)} {td td' : PySem.Str × PySem.Str} (h : o = some td) (h' : o = some td') : td = td' := Option.some.inj (h.symm.trans h')
set_option maxHeartbeats 4000000 in
theorem take_does (w : World) (r : Addr) (news : Led) (tds : List (PySem.Str × PySem.Str)) (p : Nat) (td : PySem.Str × PySem.Str) (hR : RS news r tds p) (htd : tds[p]? = some td) :
    Does w 386 [.ref r] 40 340 news (fun v news' => RS news' r tds (p + 1) ∧ Keep news news' ∧ ∃ x, v = .ref x ∧ TokAt news' x p td) (fun _ _ => False) := by
  have hR0 := hR
  obtain ⟨rd, tl, toks, e, t, nv, n, ln, h1, h2, h3, hl, hz, ht⟩ := hR0
  unfold Does
  k_fill
  intro _ dp un gd cn cs a ccd cl outer A₀ base h₀ L m mg mb mean s Q E B F X N T hk hd hu hret herr
  have hb : Binds w ob386 [.ref r] [("self", .ref r)] := .plain rfl
  refine wpAny_call ?_
  k_dflt ktr_enter
  k_steps
  rename Keep news _ => hK
  refine hret _ _ _ _ (by k_asm) (by k_asm) ⟨RS.keep h1 h3 hl hz ht hK (by assumption), hK, _, rfl, ?_⟩
  exact TokAt.keep (news := news) ⟨_, _, _, _, _, _, _, _, by assumption, by assumption, by assumption⟩ hK
end Mine
theorem off_Co3 : True := by
  (k_with "off_Co3" => skip)
  trivial
end

section
open PySem PySem.W PyProof.Rows
set_option maxRecDepth 100000
namespace Mine
theorem reg_Co4_0 : True := by
  (k_with "nt on" => ((fail_if_success walk_at "off_Co4"); (skip)))
  trivial
theorem no_kind {tds : List (PySem.Str × PySem.Str)} {i : Nat} {k : PySem.Str} (h : tds[i]? = none) (h' : kindAt tds i k = true) : False := by
  unfold kindAt at h'; rw [h] at h'; cases h'
def tokIs (tds : List (PySem.Str × PySem.Str)) (i : Nat) (k wd : PySem.Str) : Bool := match tds[i]? with | some td => td.1 == k && td.2 == wd | none => false
theorem tokIs_no {tds : List (PySem.Str × PySem.Str)} {i : Nat} {k wd : PySem.Str} (h : kindAt tds i k = false) : tokIs tds i k wd = false := by
  unfold kindAt at h; unfold tokIs
  cases q : tds[i]? with
  | none => rfl
  | some td => rw [q] at h; simp only [h, Bool.false_and]
set_option maxHeartbeats 4000000 in
theorem is_sign_b (w : World) (vs : List Value) (r : Addr) (news : Led) (tds : List (PySem.Str × PySem.Str)) (p : Nat) (k : PySem.Str) (tk : Nat) (j : Int) (tj : Nat) (hb : Binds w ob459 vs [("self", .ref r), ("sign", .str k tk), ("ahead", .int j tj)]) (hR : RS news r tds p) (hj : 0 ≤ j) :
    Does w 459 vs 40 340 news (fun v news' => news = news' ∧ v = .bool (tokIs tds (p + j.toNat) "sign" k)) (fun _ _ => False) := by
  refine RS.elim hR fun rd tl e t nv n h1 h2 => ?_
  unfold Does
  k_fill
  intro _ dp un gd cn cs a ccd cl outer A₀ base h₀ L m mg mb mean s Q E B F X N T hk hd hu hret herr
  refine wpAny_call ?_
  k_dflt ktr_enter
  k_steps
  · refine hret _ _ _ _ (by k_asm) (by k_asm) ⟨rfl, ?_⟩
    rename tds[p + j.toNat]? = some _ => ht9
    rename kindAt _ _ _ = true => hk9
    unfold kindAt at hk9
    unfold tokIs
    rw [ht9] at hk9 ⊢
    simp only [hk9, Bool.true_and]
  · refine hret _ _ _ _ (by k_asm) (by k_asm) ⟨rfl, ?_⟩
    rename kindAt _ _ _ = false => hk9
    rw [hk9, tokIs_no hk9]
theorem is_sign_does (w : World) (r : Addr) (news : Led) (tds : List (PySem.Str × PySem.Str)) (p : Nat) (k : PySem.Str) (tk : Nat) (j : Int) (tj : Nat) (hR : RS news r tds p) (hj : 0 ≤ j) :
    Does w 459 [.ref r, .str k tk, .int j tj] 40 340 news (fun v news' => news = news' ∧ v = .bool (tokIs tds (p + j.toNat) "sign" k)) (fun _ _ => False) := is_sign_b w _ r news tds p k tk j tj (.dflt 452 rfl rfl rfl rfl rfl) hR hj
theorem is_sign_does0 (w : World) (r : Addr) (news : Led) (tds : List (PySem.Str × PySem.Str)) (p : Nat) (k : PySem.Str) (tk : Nat) (hR : RS news r tds p) :
    Does w 459 [.ref r, .str k tk] 40 340 news (fun v news' => news = news' ∧ v = .bool (tokIs tds p "sign" k)) (fun _ _ => False) := is_sign_b w _ r news tds p k tk 0 _ (.dflt 452 rfl rfl rfl rfl rfl) hR (by decide)
end Mine
theorem off_Co4 : True := by
  (k_with "off_Co4" => skip)
  trivial
end

section
open PySem PySem.W PyProof.Rows
set_option maxRecDepth 100000
namespace Mine
theorem reg_Co5_0 : True := by
  (k_with "nt on" => ((fail_if_success walk_at "off_Co5"); (skip)))
  (k_with "does" => first | with_reducible exact is_sign_does _ _ _ _ _ _ _ _ _ (by walk_at "RS") (by first | with_reducible assumption | decide | omega) | with_reducible exact is_sign_does0 _ _ _ _ _ _ _ (by walk_at "RS"))
  trivial
theorem no_bool {b : Bool} (h : b = true) (h' : b = false) : False := by rw [h] at h'; cases h'
theorem no_tokIs {tds : List (PySem.Str × PySem.Str)} {i : Nat} {k wd : PySem.Str} {td : PySem.Str × PySem.Str} (h : tds[i]? = some td) (hb : tokIs tds i k wd = true) (hn : (td.1 == k && td.2 == wd) = false) : False := by
  unfold tokIs at hb; rw [h] at hb; exact no_bool hb hn
theorem no_tokIs' {tds : List (PySem.Str × PySem.Str)} {i : Nat} {k wd : PySem.Str} {td : PySem.Str × PySem.Str} (h : tds[i]? = some td) (hb : tokIs tds i k wd = false) (hn : (td.1 == k && td.2 == wd) = true) : False := by
  unfold tokIs at hb; rw [h] at hb; exact no_bool hn hb
theorem TokAt.sub {news news' : Led} {x : Addr} {i : Nat} {td : PySem.Str × PySem.Str} (h : TokAt news x i td) (k : ∀ q ∈ news, q ∈ news') : TokAt news' x i td := by
  obtain ⟨dx, ta, t1, t2, tn, e, t, n, a, b, c⟩ := h
  exact ⟨dx, ta, t1, t2, tn, e, t, n, k _ a, k _ b, k _ c⟩
theorem RS.sub {news news' : Led} {r : Addr} {tds : List (PySem.Str × PySem.Str)} {p : Nat} (h : RS news r tds p) (k : ∀ q ∈ news, q ∈ news') : RS news' r tds p := by
  obtain ⟨rd, tl, toks, e, t, nv, n, ln, h1, h2, h3, hl, hz, ht⟩ := h
  exact ⟨rd, tl, toks, e, t, nv, n, ln, k _ h1, k _ h2, k _ h3, hl, hz, fun i td hi => let ⟨x, a, b⟩ := ht i td hi; ⟨x, a, b.sub k⟩⟩
theorem RS.sub1 {news : Led} {o : Addr × Obj} {r : Addr} {tds : List (PySem.Str × PySem.Str)} {p : Nat} (h : RS news r tds p) : RS (o :: news) r tds p := h.sub fun _ => List.mem_cons_of_mem _
set_option maxHeartbeats 4000000 in
theorem skip_sign_does (w : World) (r : Addr) (news : Led) (tds : List (PySem.Str × PySem.Str)) (p : Nat) (k : PySem.Str) (tk : Nat) (hR : RS news r tds p) :
    Does w 466 [.ref r, .str k tk] 50 420 news (fun v news' => (tokIs tds p "sign" k = true ∧ v = .bool true ∧ RS news' r tds (p + 1) ∧ Keep news news') ∨ (tokIs tds p "sign" k = false ∧ v = .bool false ∧ news = news')) (fun _ _ => False) := by
  have hR0 := hR
  obtain ⟨rd, tl, toks, e, t, nv, n, ln, h1, h2, h3, hl, hz, ht⟩ := hR0
  unfold Does
  k_fill
  intro _ dp un gd cn cs a ccd cl outer A₀ base h₀ L m mg mb mean s Q E B F X N T hk hd hu hret herr
  have hb : Binds w ob466 [.ref r, .str k tk] [("self", .ref r), ("sign", .str k tk)] := .plain rfl
  refine wpAny_call ?_
  k_dflt ktr_enter
  k_steps
  · rename Keep news _ => hK
    exact hret _ _ _ _ (by k_asm) (by k_asm) (.inl ⟨by assumption, rfl, RS.keep h1 h3 hl hz ht hK (by assumption), hK⟩)
  · exact hret _ _ _ _ (by k_asm) (by k_asm) (.inr ⟨by assumption, rfl, rfl⟩)
theorem reg_Co5_1 : True := by
  (k_with "does" => first | with_reducible exact skip_sign_does _ _ _ _ _ _ _ (by walk_at "RS"))
  trivial
set_option maxHeartbeats 4000000 in
theorem need_sign_does (w : World) (r : Addr) (news : Led) (tds : List (PySem.Str × PySem.Str)) (p : Nat) (k : PySem.Str) (tk : Nat) (hR : RS news r tds p) (hs : tokIs tds p "sign" k = true) :
    Does w 473 [.ref r, .str k tk] 60 500 news (fun v news' => v = .none ∧ RS news' r tds (p + 1) ∧ Keep news news') (fun _ _ => False) := by
  refine RS.elim hR fun rd tl e t nv n h1 h2 => ?_
  unfold Does
  k_fill
  intro _ dp un gd cn cs a ccd cl outer A₀ base h₀ L m mg mb mean s Q E B F X N T hk hd hu hret herr
  have hb : Binds w ob473 [.ref r, .str k tk] [("self", .ref r), ("sign", .str k tk)] := .plain rfl
  refine wpAny_call ?_
  k_dflt ktr_enter
  k_steps
  rename Keep news _ => hK
  exact hret _ _ _ _ (by k_asm) (by k_asm) ⟨rfl, by assumption, hK⟩
def isNum (tds : List (PySem.Str × PySem.Str)) (p : Nat) : Bool := if tokIs tds p "sign" "+" || tokIs tds p "sign" "-" then kindAt tds (p + 1) "number" else kindAt tds p "number"
set_option maxHeartbeats 4000000 in
theorem is_number_does (w : World) (r : Addr) (news : Led) (tds : List (PySem.Str × PySem.Str)) (p : Nat) (hR : RS news r tds p) :
    Does w 480 [.ref r] 50 420 news (fun v news' => news = news' ∧ v = .bool (isNum tds p)) (fun _ _ => False) := by
  refine RS.elim hR fun rd tl e t nv n h1 h2 => ?_
  unfold Does
  k_fill
  intro _ dp un gd cn cs a ccd cl outer A₀ base h₀ L m mg mb mean s Q E B F X N T hk hd hu hret herr
  have hb : Binds w ob480 [.ref r] [("self", .ref r)] := .plain rfl
  refine wpAny_call ?_
  k_dflt ktr_enter
  k_steps
  all_goals (refine hret _ _ _ _ (by k_asm) (by k_asm) ⟨rfl, ?_⟩; unfold isNum; simp [*])
end Mine
theorem off_Co5 : True := by
  (k_with "off_Co5" => skip)
  trivial
end

section
open PySem PySem.W PyProof.Rows
set_option maxRecDepth 100000
namespace Mine
theorem reg_Co6_0 : True := by
  (k_with "nt on" => ((fail_if_success walk_at "off_Co6"); (skip)))
  (k_with "k_mem" => first | ((show _ ∈ _); ktr_member) | exact List.Mem.head _ | (refine' List.mem_cons_of_mem _ ?_; k_mem))
  (k_with "does" => first | with_reducible exact peek_does _ _ _ _ _ _ _ (by walk_at "RS") (by first | with_reducible assumption | decide | omega) | with_reducible exact peek_does0 _ _ _ _ _ (by walk_at "RS"))
  (k_with "does" => first | with_reducible exact is_kind_does _ _ _ _ _ _ _ _ _ (by walk_at "RS") (by first | with_reducible assumption | decide | omega) | with_reducible exact is_kind_does0 _ _ _ _ _ _ _ (by walk_at "RS"))
  (k_with "does" => first | with_reducible exact is_sign_does _ _ _ _ _ _ _ _ _ (by walk_at "RS") (by first | with_reducible assumption | decide | omega) | with_reducible exact is_sign_does0 _ _ _ _ _ _ _ (by walk_at "RS"))
  trivial
structure OneWord (k : PySem.Str) : Prop where
  split : Txt.split k " " = [k]
  len : k.length ≤ 100
theorem OneWord.size {k : PySem.Str} (h : OneWord k) : k.length + 2 ≤ sizeLine := by
  have := h.len
  rw [sizeLine_eq]; omega
theorem unrEnd_pure {h₀ : Heap} {L I : Addr} {it : Obj} {rest : (PySem.Str → Option Value) → Led → Prop} {s₁ : Shared} {h' : Heap} {tk : Nat} {m' : PySem.Str → Option Value} {news' : Led} (F : Fr h₀ L h' m') (N : News h₀ L h' ((I, it) :: news'))
    (l1 : ∀ p ∈ news', p.1 < I) (r : rest m' news') : UnrEnd h₀ L s₁ I it rest { s₁ with heap := h', toks := tk } := UnrEnd.intro F N news' (fun _ h => h) (fun p h => Nat.ne_of_lt (l1 p h)) r
theorem News.sub1 {h₀ h : Heap} {L : Addr} {o : Addr × Obj} {news : Led} (N : News h₀ L h (o :: news)) : News h₀ L h news := fun p hp => N p (List.mem_cons_of_mem _ hp)
theorem News.sub2 {h₀ h : Heap} {L : Addr} {o o' : Addr × Obj} {news : Led} (N : News h₀ L h (o :: o' :: news)) : News h₀ L h news := News.sub1 (News.sub1 N)
theorem word_end1 {tds : List (PySem.Str × PySem.Str)} {i : Nat} {kk k : PySem.Str} {td : PySem.Str × PySem.Str} (hk : kindAt tds i kk = true) (ht : tds[i]? = some td) (hn : (td.2 != k) = true) : false = tokIs tds i kk k := by
  unfold tokIs; rw [ht]
  have : (td.2 == k) = false := by simpa [bne] using hn
  simp [this]
theorem word_end2 {tds : List (PySem.Str × PySem.Str)} {i : Nat} {kk k : PySem.Str} {td : PySem.Str × PySem.Str} (hk : kindAt tds i kk = true) (ht : tds[i]? = some td) (hn : (td.2 != k) = false) : true = tokIs tds i kk k := by
  unfold kindAt at hk; unfold tokIs; rw [ht] at hk ⊢
  have : (td.2 == k) = true := by simpa [bne] using hn
  simp only [hk, this, Bool.and_self]
theorem reg_Co6_1 : True := by
  (k_with "call builtin:str.split" => (k_here; (with_reducible show wpAny _ _ (call (Value.builtin "str.split") _) _ _ _); (rename OneWord _ => hOW); (k_dflt (refine KSpl.split1 (by k_asm) (by k_asm) (by decide) ?_ (OneWord.size hOW))); intro D' l' h' k' e' a' F' N' l1; (try k_lt l1); (replace e' := Eq.trans e' (OneWord.split hOW)); kspl_open e'; (simp only [strValues, List.map_cons, List.map_nil] at N' a')))
  (k_with "pyIter ref" => ((fail_if_success walk_at "off_Co6"); ((with_reducible show wpAny _ _ (pyIter (Value.ref _)) (fun it s₂ => LoopAtV _ _ _ _ _ _ _ _ _ it s₂) _ _); k_here; (rename Fr _ _ _ _ => lF'); (rename News _ _ _ _ => lN'); (with_unfolding_all refine iter_listUnr (lo := _) (vs := _) (by rfl) lF' lN' (by k_mem) (by rfl) (by rfl) ?_); clear lF'; intro i' l1)))
  (k_with "UnrEnd" => ((fail_if_success walk_at "off_Co6"); ((rename News _ _ _ _ => lN'); k_dflt (refine unrEnd_pure (by assumption) lN' (by assumption) ⟨by k_mem, ?_⟩))))
  trivial
set_option maxHeartbeats 4000000 in
theorem is_word_does (w : World) (r : Addr) (news : Led) (tds : List (PySem.Str × PySem.Str)) (p : Nat) (k : PySem.Str) (tk : Nat) (hR : RS news r tds p) (hw1 : OneWord k) :
    Does w 401 [.ref r, .str k tk] 50 420 news (fun v news' => news = news' ∧ v = .bool (tokIs tds p "word" k)) (fun _ _ => False) := by
  refine RS.elim hR fun rd tl e t nv n h1 h2 => ?_
  unfold Does
  k_fill
  intro _ dp un gd cn cs a ccd cl outer A₀ base h₀ L m mg mb mean s Q E B F X N T hk hd hu hret herr
  have hb : Binds w ob401 [.ref r, .str k tk] [("self", .ref r), ("words", .str k tk)] := .plain rfl
  refine wpAny_call ?_
  k_dflt ktr_enter
  k_steps
  all_goals (refine hret _ _ _ _ (by k_asm) (by first | exact News.sub2 (by k_asm) | exact News.sub1 (by k_asm)) ⟨rfl, ?_⟩; show _ = Value.bool (tokIs tds (p + Int.toNat 0) "word" k))
  · exact congrArg Value.bool (word_end1 (by assumption) (by assumption) (by assumption))
  · exact congrArg Value.bool (word_end2 (by assumption) (by assumption) (by assumption))
  · exact congrArg Value.bool (tokIs_no (by assumption)).symm
end Mine
theorem off_Co6 : True := by
  (k_with "off_Co6" => skip)
  trivial
end

section
open PySem PySem.W PyProof.Rows
set_option maxRecDepth 100000
namespace Mine
theorem reg_Co7_0 : True := by
  (k_with "nt on" => ((fail_if_success walk_at "off_Co7"); (skip)))
  (k_with "does" => first | with_reducible exact is_word_does _ _ _ _ _ _ _ (by walk_at "RS") (by first | assumption | exact ⟨by decide +kernel, by decide⟩))
  trivial
theorem Keep.tail {o : Addr × Obj} {a b : Led} (h : Keep (o :: a) b) : Keep a b := fun q hq i => h q (List.mem_cons_of_mem _ hq) i
theorem tok_end1 {tds : List (PySem.Str × PySem.Str)} {i : Nat} {kk k : PySem.Str} {td : PySem.Str × PySem.Str} (ht : tds[i]? = some td) (hf : (td.1 == kk) = true) : (td.2 == k) = tokIs tds i kk k := by
  unfold tokIs; rw [ht]; simp only [hf, Bool.true_and]
theorem tok_end2 {tds : List (PySem.Str × PySem.Str)} {i : Nat} {kk k : PySem.Str} {td : PySem.Str × PySem.Str} (ht : tds[i]? = some td) (hf : (td.1 == kk) = false) : (td.1 == kk) = tokIs tds i kk k := by
  unfold tokIs; rw [ht]; simp only [hf, Bool.false_and]
theorem tok_end3 {tds : List (PySem.Str × PySem.Str)} {i : Nat} {kk k : PySem.Str} (ht : tds[i]? = none) : false = tokIs tds i kk k := by
  unfold tokIs; rw [ht]
set_option maxHeartbeats 4000000 in
theorem skip_does (w : World) (r : Addr) (news : Led) (tds : List (PySem.Str × PySem.Str)) (p : Nat) (k : PySem.Str) (tk : Nat) (hR : RS news r tds p) (hw1 : OneWord k) :
    Does w 408 [.ref r, .str k tk] 60 500 news (fun v news' => (tokIs tds p "word" k = true ∧ v = .bool true ∧ RS news' r tds (p + 1) ∧ Keep news news') ∨ (tokIs tds p "word" k = false ∧ v = .bool false ∧ news = news')) (fun _ _ => False) := by
  have hR0 := hR
  obtain ⟨rd, tl, toks, e, t, nv, n, ln, h1, h2, h3, hl, hz, ht⟩ := hR0
  unfold Does
  k_fill
  intro _ dp un gd cn cs a ccd cl outer A₀ base h₀ L m mg mb mean s Q E B F X N T hk hd hu hret herr
  have hb : Binds w ob408 [.ref r, .str k tk] [("self", .ref r), ("words", .str k tk)] := .plain rfl
  refine wpAny_call ?_
  k_dflt ktr_enter
  k_steps
  · rename Keep _ _ => hK
    exact hret _ _ _ _ (by k_asm) (by k_asm) (.inl ⟨by assumption, rfl, RS.keep h1 h3 hl hz ht (Keep.tail hK) (by assumption), Keep.tail hK⟩)
  · exact hret _ _ _ _ (by k_asm) (by k_asm) (.inr ⟨by assumption, rfl, rfl⟩)
theorem reg_Co7_1 : True := by
  (k_with "does" => first | with_reducible exact skip_does _ _ _ _ _ _ _ (by walk_at "RS") (by first | assumption | exact ⟨by decide +kernel, by decide⟩))
  trivial
set_option maxHeartbeats 4000000 in
theorem need_does (w : World) (r : Addr) (news : Led) (tds : List (PySem.Str × PySem.Str)) (p : Nat) (k : PySem.Str) (tk : Nat) (hR : RS news r tds p) (hw1 : OneWord k) (hs : tokIs tds p "word" k = true) :
    Does w 415 [.ref r, .str k tk] 70 580 news (fun v news' => v = .none ∧ RS news' r tds (p + 1) ∧ Keep news news') (fun _ _ => False) := by
  refine RS.elim hR fun rd tl e t nv n h1 h2 => ?_
  unfold Does
  k_fill
  intro _ dp un gd cn cs a ccd cl outer A₀ base h₀ L m mg mb mean s Q E B F X N T hk hd hu hret herr
  have hb : Binds w ob415 [.ref r, .str k tk] [("self", .ref r), ("words", .str k tk)] := .plain rfl
  refine wpAny_call ?_
  k_dflt ktr_enter
  k_steps
  rename Keep news _ => hK
  exact hret _ _ _ _ (by k_asm) (by k_asm) ⟨rfl, by assumption, hK⟩
set_option maxHeartbeats 4000000 in
theorem word_ahead_does (w : World) (r : Addr) (news : Led) (tds : List (PySem.Str × PySem.Str)) (p : Nat) (j : Int) (tj : Nat) (k : PySem.Str) (tk : Nat) (hR : RS news r tds p) (hj : 0 ≤ j) :
    Does w 244 [.ref r, .int j tj, .str k tk] 40 340 news (fun v news' => news = news' ∧ v = .bool (tokIs tds (p + j.toNat) "word" k)) (fun _ _ => False) := by
  refine RS.elim hR fun rd tl e t nv n h1 h2 => ?_
  unfold Does
  k_fill
  intro _ dp un gd cn cs a ccd cl outer A₀ base h₀ L m mg mb mean s Q E B F X N T hk hd hu hret herr
  have hb : Binds w ob244 [.ref r, .int j tj, .str k tk] [("reader", .ref r), ("ahead", .int j tj), ("word", .str k tk)] := .plain rfl
  refine wpAny_call ?_
  k_dflt ktr_enter
  k_steps
  all_goals refine hret _ _ _ _ (by k_asm) (by k_asm) ⟨rfl, ?_⟩
  all_goals first | exact congrArg Value.bool (tok_end3 (by assumption)) | exact congrArg Value.bool (tok_end1 (by assumption) (by assumption)) | exact congrArg Value.bool (tok_end2 (by assumption) (by assumption))
end Mine
theorem off_Co7 : True := by
  (k_with "off_Co7" => skip)
  trivial
end

section
open PySem PySem.W PyProof.Rows
set_option maxRecDepth 100000
namespace Mine
theorem reg_Co8_0 : True := by
  (k_with "nt on" => ((fail_if_success walk_at "off_Co8"); (skip)))
  (k_with "pyIter ref" => ((fail_if_success walk_at "off_Co8"); ((with_reducible show wpAny _ _ (pyIter (Value.ref _)) (fun it s₂ => LoopAtV _ _ _ _ _ _ _ _ _ it s₂) _ _); k_here; (rename Fr _ _ _ _ => lF'); (rename News _ _ _ _ => lN'); (with_unfolding_all refine iter_listUnr (lo := _) (vs := _) (by rfl) lF' lN' (by k_mem) (by rfl) (by rfl) ?_); clear lF'; intro i' l1)))
  (k_with "UnrEnd" => ((fail_if_success walk_at "off_Co8"); ((rename News _ _ _ _ => lN'); k_dflt (refine unrEnd_pure (by assumption) lN' (by assumption) ⟨by k_mem, ?_⟩))))
  trivial
def resB (k : PySem.Str) : Bool := !(Builtin.Str.occurrences resv (" " ++ k ++ " ") 0 resv.length 1).isEmpty
set_option maxHeartbeats 4000000 in
theorem is_reserved_does (w : World) (news : Led) (k : PySem.Str) (tk : Nat) (hl : k.length ≤ 100) :
    Does w 337 [.str k tk] 20 160 news (fun v news' => news = news' ∧ v = .bool (resB k)) (fun _ _ => False) := by
  unfold Does
  k_fill
  intro _ dp un gd cn cs a ccd cl outer A₀ base h₀ L m mg mb mean s Q E B F X N T hk hd hu hret herr
  have hb : Binds w ob337 [.str k tk] [("word", .str k tk)] := .plain rfl
  refine wpAny_call ?_
  k_dflt ktr_enter
  k_steps
  exact hret _ _ _ _ (by k_asm) (by k_asm) ⟨rfl, rfl⟩
set_option maxHeartbeats 4000000 in
theorem one_of_does (w : World) (r : Addr) (news : Led) (tds : List (PySem.Str × PySem.Str)) (p : Nat) (tk : Nat) (hR : RS news r tds p) :
    Does w 422 [.ref r, .str "OF IN" tk] 80 660 news (fun v news' => (tokIs tds p "word" ⟨#[79, 70]⟩ = true ∧ (∃ t, v = .str ⟨#[79, 70]⟩ t) ∧ RS news' r tds (p + 1) ∧ Keep news news') ∨ (tokIs tds p "word" ⟨#[79, 70]⟩ = false ∧ tokIs tds p "word" ⟨#[73, 78]⟩ = true ∧ (∃ t, v = .str ⟨#[73, 78]⟩ t) ∧ RS news' r tds (p + 1) ∧ Keep news news') ∨ (tokIs tds p "word" ⟨#[79, 70]⟩ = false ∧ tokIs tds p "word" ⟨#[73, 78]⟩ = false ∧ (∃ t, v = .str "" t) ∧ news = news')) (fun _ _ => False) := by
  refine RS.elim hR fun rd tl e t nv n h1 h2 => ?_
  unfold Does
  k_fill
  intro _ dp un gd cn cs a ccd cl outer A₀ base h₀ L m mg mb mean s Q E B F X N T hk hd hu hret herr
  have hb : Binds w ob422 [.ref r, .str "OF IN" tk] [("self", .ref r), ("words", .str "OF IN" tk)] := .plain rfl
  refine wpAny_call ?_
  k_dflt ktr_enter
  k_steps
  · rename Keep _ _ => hK
    exact hret _ _ _ _ (by k_asm) (by k_asm) (.inl ⟨by assumption, ⟨_, rfl⟩, by assumption, Keep.tail (Keep.tail hK)⟩)
  · rename Keep _ _ => hK
    exact hret _ _ _ _ (by k_asm) (by k_asm) (.inr (.inl ⟨by assumption, by assumption, ⟨_, rfl⟩, by assumption, Keep.tail (Keep.tail hK)⟩))
  · exact hret _ _ _ _ (by k_asm) (by first | exact News.sub1 (by k_asm) | exact News.sub2 (by k_asm)) (.inr (.inr ⟨by assumption, by assumption, ⟨_, rfl⟩, rfl⟩))
end Mine
theorem off_Co8 : True := by
  (k_with "off_Co8" => skip)
  trivial
end

section
open PySem PySem.W PyProof.Rows
set_option maxRecDepth 100000
namespace Mine
theorem reg_Co9_0 : True := by
  (k_with "nt on" => ((fail_if_success walk_at "off_Co9"); (skip)))
  (k_with "does" => first | with_reducible exact take_does _ _ _ _ _ _ (by walk_at "RS") (by assumption))
  trivial
def Short (tds : List (PySem.Str × PySem.Str)) : Prop := ∀ (i : Nat) td, tds[i]? = some td → td.2.length ≤ 100
def nameAt (tds : List (PySem.Str × PySem.Str)) (i : Nat) : Bool := match tds[i]? with | some td => td.1 == "word" && !resB td.2 | none => false
theorem name_end1 {tds : List (PySem.Str × PySem.Str)} {i : Nat} {td : PySem.Str × PySem.Str} (hk : kindAt tds i "word" = true) (ht : tds[i]? = some td) : (!resB td.2) = nameAt tds i := by
  unfold kindAt at hk; unfold nameAt; rw [ht] at hk ⊢; simp only [hk, Bool.true_and]
theorem name_end2 {tds : List (PySem.Str × PySem.Str)} {i : Nat} (hk : kindAt tds i "word" = false) : kindAt tds i "word" = nameAt tds i := by
  rw [hk]; unfold kindAt at hk; unfold nameAt
  cases q : tds[i]? with
  | none => rfl
  | some td => rw [q] at hk; simp only [hk, Bool.false_and]
theorem reg_Co9_1 : True := by
  (k_with "does" => ((fail_if_success walk_at "off_Co9"); first | with_reducible exact is_reserved_does _ _ _ _ (by first | assumption | (rename Short _ => hS9; k_dflt (exact hS9 _ _ (by assumption))))))
  trivial
set_option maxHeartbeats 4000000 in
theorem is_name_b (w : World) (vs : List Value) (r : Addr) (news : Led) (tds : List (PySem.Str × PySem.Str)) (p : Nat) (j : Int) (tj : Nat) (hb : Binds w ob437 vs [("self", .ref r), ("ahead", .int j tj)]) (hR : RS news r tds p) (hlen : Short tds) (hj : 0 ≤ j) :
    Does w 437 vs 50 420 news (fun v news' => news = news' ∧ v = .bool (nameAt tds (p + j.toNat))) (fun _ _ => False) := by
  refine RS.elim hR fun rd tl e t nv n h1 h2 => ?_
  unfold Does
  k_fill
  intro _ dp un gd cn cs a ccd cl outer A₀ base h₀ L m mg mb mean s Q E B F X N T hk hd hu hret herr
  refine wpAny_call ?_
  k_dflt ktr_enter
  k_steps
  all_goals refine hret _ _ _ _ (by k_asm) (by k_asm) ⟨rfl, ?_⟩
  · exact congrArg Value.bool (name_end1 (by assumption) (by assumption))
  · exact congrArg Value.bool (name_end2 (by assumption))
theorem is_name_does (w : World) (r : Addr) (news : Led) (tds : List (PySem.Str × PySem.Str)) (p : Nat) (j : Int) (tj : Nat) (hR : RS news r tds p) (hlen : Short tds) (hj : 0 ≤ j) :
    Does w 437 [.ref r, .int j tj] 50 420 news (fun v news' => news = news' ∧ v = .bool (nameAt tds (p + j.toNat))) (fun _ _ => False) := is_name_b w _ r news tds p j tj (.dflt 430 rfl rfl rfl rfl rfl) hR hlen hj
theorem is_name_does0 (w : World) (r : Addr) (news : Led) (tds : List (PySem.Str × PySem.Str)) (p : Nat) (hR : RS news r tds p) (hlen : Short tds) :
    Does w 437 [.ref r] 50 420 news (fun v news' => news = news' ∧ v = .bool (nameAt tds p)) (fun _ _ => False) := is_name_b w _ r news tds p 0 _ (.dflt 430 rfl rfl rfl rfl rfl) hR hlen (by decide)
theorem reg_Co9_2 : True := by
  (k_with "does" => ((fail_if_success walk_at "off_Co9"); first | with_reducible exact is_name_does _ _ _ _ _ _ _ (by walk_at "RS") (by assumption) (by first | with_reducible assumption | decide | omega) | with_reducible exact is_name_does0 _ _ _ _ _ (by walk_at "RS") (by assumption)))
  trivial
set_option maxHeartbeats 4000000 in
theorem name_does (w : World) (r : Addr) (news : Led) (tds : List (PySem.Str × PySem.Str)) (p : Nat) (td : PySem.Str × PySem.Str) (hR : RS news r tds p) (hlen : Short tds) (htd : tds[p]? = some td) (hn : nameAt tds p = true) :
    Does w 444 [.ref r] 60 500 news (fun v news' => (∃ t, v = .str td.2 t) ∧ RS news' r tds (p + 1) ∧ Keep news news') (fun _ _ => False) := by
  refine RS.elim hR fun rd tl e t nv n h1 h2 => ?_
  unfold Does
  k_fill
  intro _ dp un gd cn cs a ccd cl outer A₀ base h₀ L m mg mb mean s Q E B F X N T hk hd hu hret herr
  have hb : Binds w ob444 [.ref r] [("self", .ref r)] := .plain rfl
  refine wpAny_call ?_
  k_dflt ktr_enter
  k_steps
  rename Keep news _ => hK
  exact hret _ _ _ _ (by k_asm) (by k_asm) ⟨⟨_, rfl⟩, by assumption, hK⟩
end Mine
theorem off_Co9 : True := by
  (k_with "off_Co9" => skip)
  trivial
end

section
open PySem PySem.W PyProof.Rows
set_option maxRecDepth 100000
namespace Mine
theorem reg_Co10_0 : True := by
  (k_with "nt on" => ((fail_if_success walk_at "off_Co10"); (skip)))
  (k_with "does" => first | with_reducible exact is_number_does _ _ _ _ _ (by walk_at "RS"))
  (k_with "does" => ((fail_if_success walk_at "off_Co10"); first | with_reducible exact is_name_does _ _ _ _ _ _ _ (by walk_at "RS") (by assumption) (by first | with_reducible assumption | decide | omega) | with_reducible exact is_name_does0 _ _ _ _ _ (by walk_at "RS") (by assumption)))
  trivial
def figB (k : PySem.Str) : Bool := !(Builtin.Str.occurrences fwords (" " ++ k ++ " ") 0 fwords.length 1).isEmpty
def figAt (tds : List (PySem.Str × PySem.Str)) (p : Nat) : Bool := match tds[p]? with | some td => td.1 == "word" && figB td.2 | none => false
def beginsAt (tds : List (PySem.Str × PySem.Str)) (p : Nat) : Bool := isNum tds p || kindAt tds p "literal" || nameAt tds p || figAt tds p
theorem Short.at {tds : List (PySem.Str × PySem.Str)} {i : Nat} {td : PySem.Str × PySem.Str} (h : Short tds) (ht : tds[i]? = some td) : td.2.length ≤ 100 := h i td ht
theorem fig_end1 {tds : List (PySem.Str × PySem.Str)} {i : Nat} {td : PySem.Str × PySem.Str} (hk : kindAt tds i "word" = true) (ht : tds[i]? = some td) : figB td.2 = figAt tds i := by
  unfold kindAt at hk; unfold figAt; rw [ht] at hk ⊢; simp only [hk, Bool.true_and]
theorem fig_end2 {tds : List (PySem.Str × PySem.Str)} {i : Nat} (hk : kindAt tds i "word" = false) : kindAt tds i "word" = figAt tds i := by
  rw [hk]; unfold kindAt at hk; unfold figAt
  cases q : tds[i]? with
  | none => rfl
  | some td => rw [q] at hk; simp only [hk, Bool.false_and]
set_option maxHeartbeats 4000000 in
theorem begins_does (w : World) (r : Addr) (news : Led) (tds : List (PySem.Str × PySem.Str)) (p : Nat) (hR : RS news r tds p) (hlen : Short tds) :
    Does w 279 [.ref r] 70 580 news (fun v news' => news = news' ∧ v = .bool (beginsAt tds p)) (fun _ _ => False) := by
  refine RS.elim hR fun rd tl e t nv n h1 h2 => ?_
  unfold Does
  k_fill
  intro _ dp un gd cn cs a ccd cl outer A₀ base h₀ L m mg mb mean s Q E B F X N T hk hd hu hret herr
  have hb : Binds w ob279 [.ref r] [("reader", .ref r)] := .plain rfl
  refine wpAny_call ?_
  k_dflt ktr_enter
  k_steps
  · refine hret _ _ _ _ (by k_asm) (by k_asm) ⟨rfl, ?_⟩
    unfold beginsAt; simp [*]
  · refine hret _ _ _ _ (by k_asm) (by k_asm) ⟨rfl, ?_⟩
    unfold beginsAt; simp [*]
  · refine hret _ _ _ _ (by k_asm) (by k_asm) ⟨rfl, ?_⟩
    unfold beginsAt; simp [*]
  · rename tds[p]? = some _ => ht9
    have hl9 := Short.at hlen ht9
    k_steps
    refine hret _ _ _ _ (by k_asm) (by k_asm) ⟨rfl, ?_⟩
    have a1 : isNum tds p = false := by assumption
    have a2 : kindAt tds p "literal" = false := by assumption
    have a3 : nameAt tds p = false := by assumption
    unfold beginsAt
    rw [a1, a2, a3, ← fig_end1 (by assumption) ht9]
    rfl
  · refine hret _ _ _ _ (by k_asm) (by k_asm) ⟨rfl, ?_⟩
    have a1 : isNum tds p = false := by assumption
    have a2 : kindAt tds p "literal" = false := by assumption
    have a3 : nameAt tds p = false := by assumption
    unfold beginsAt
    rw [a1, a2, a3, ← fig_end2 (by assumption)]
    rfl
end Mine
theorem off_Co10 : True := by
  (k_with "off_Co10" => skip)
  trivial
end

section
open PySem PySem.W PyProof.Rows
set_option maxRecDepth 100000
namespace Mine
def preB : List Nat → List Nat → Bool
  | [], _ => true
  | _ :: _, [] => false
  | a :: y, b :: l => Nat.beq a b && preB y l
def infB (y : List Nat) : List Nat → Bool
  | [] => preB y []
  | b :: l => preB y (b :: l) || infB y l
theorem preB_iff : ∀ {y l : List Nat}, preB y l = true ↔ l.take y.length = y
  | [], l => by simp [preB]
  | _ :: _, [] => by simp [preB]
  | a :: y, b :: l => by
    unfold preB
    rw [Bool.and_eq_true, preB_iff, List.length_cons, List.take_succ_cons, List.cons.injEq]
    exact ⟨fun h => ⟨(Nat.eq_of_beq_eq_true h.1).symm, h.2⟩, fun h => ⟨by rw [h.1]; exact Nat.beq_refl a, h.2⟩⟩
theorem infB_iff (y : List Nat) : ∀ l : List Nat, infB y l = true ↔ ∃ i, i ≤ l.length ∧ preB y (l.drop i) = true
  | [] => by
    unfold infB
    exact ⟨fun h => ⟨0, Nat.le_refl _, h⟩, fun ⟨i, hi, h⟩ => by simpa using h⟩
  | b :: l => by
    unfold infB
    rw [Bool.or_eq_true, infB_iff y l]
    constructor
    · rintro (h | ⟨i, hi, h⟩)
      · exact ⟨0, Nat.zero_le _, h⟩
      · exact ⟨i + 1, by rw [List.length_cons]; omega, h⟩
    · rintro ⟨i, hi, h⟩
      cases i with
      | zero => exact .inl h
      | succ i => exact .inr ⟨i, by rw [List.length_cons] at hi; omega, h⟩
theorem preB_len {y l : List Nat} (h : preB y l = true) : y.length ≤ l.length := by
  have := congrArg List.length (preB_iff.mp h)
  rw [List.length_take] at this
  omega
theorem in_inf (x y : PySem.Str) : (!(Builtin.Str.occurrences x y 0 x.length 1).isEmpty) = infB y.cps.toList x.cps.toList := by
  rw [Bool.eq_iff_iff, StrLaws.found_iff, infB_iff]
  have hl : x.length = x.cps.toList.length := by simp [PySem.Str.length]
  have hy : y.length = y.cps.toList.length := by simp [PySem.Str.length]
  constructor
  · rintro ⟨i, hi, h⟩
    refine ⟨i, by omega, preB_iff.mpr ?_⟩
    rw [StrLaws.subAt_eq, hy] at h
    exact eq_of_beq h
  · rintro ⟨i, hi, h⟩
    have this0 := h
    have := preB_len h
    rw [List.length_drop] at this
    refine ⟨i, by omega, ?_⟩
    rw [StrLaws.subAt_eq, hy]
    exact beq_iff_eq.mpr (preB_iff.mp this0)
theorem resB_eq (k : PySem.Str) : resB k = infB (" " ++ k ++ " " : PySem.Str).cps.toList resv.cps.toList := in_inf _ _
theorem figB_eq (k : PySem.Str) : figB k = infB (" " ++ k ++ " " : PySem.Str).cps.toList fwords.cps.toList := in_inf _ _
theorem res_A : resB "A" = false := by
  have h1 : ((" " ++ "A" ++ " " : PySem.Str).cps.toList == [32, 65, 32]) = true := by k_qdec
  have h2 : (infB [32, 65, 32] resv.cps.toList == false) = true := by delta resv strIn; k_qdec
  rw [resB_eq, eq_of_beq h1]; exact eq_of_beq h2
theorem fig_A : figB "A" = false := by
  have h1 : ((" " ++ "A" ++ " " : PySem.Str).cps.toList == [32, 65, 32]) = true := by k_qdec
  have h2 : (infB [32, 65, 32] fwords.cps.toList == false) = true := by decide +kernel
  rw [figB_eq, eq_of_beq h1]; exact eq_of_beq h2
theorem res_B : resB "B" = false := by
  have h1 : ((" " ++ "B" ++ " " : PySem.Str).cps.toList == [32, 66, 32]) = true := by k_qdec
  have h2 : (infB [32, 66, 32] resv.cps.toList == false) = true := by delta resv strIn; k_qdec
  rw [resB_eq, eq_of_beq h1]; exact eq_of_beq h2
theorem fig_B : figB "B" = false := by
  have h1 : ((" " ++ "B" ++ " " : PySem.Str).cps.toList == [32, 66, 32]) = true := by k_qdec
  have h2 : (infB [32, 66, 32] fwords.cps.toList == false) = true := by decide +kernel
  rw [figB_eq, eq_of_beq h1]; exact eq_of_beq h2
theorem res_C : resB "C" = false := by
  have h1 : ((" " ++ "C" ++ " " : PySem.Str).cps.toList == [32, 67, 32]) = true := by k_qdec
  have h2 : (infB [32, 67, 32] resv.cps.toList == false) = true := by delta resv strIn; k_qdec
  rw [resB_eq, eq_of_beq h1]; exact eq_of_beq h2
theorem fig_C : figB "C" = false := by
  have h1 : ((" " ++ "C" ++ " " : PySem.Str).cps.toList == [32, 67, 32]) = true := by k_qdec
  have h2 : (infB [32, 67, 32] fwords.cps.toList == false) = true := by decide +kernel
  rw [figB_eq, eq_of_beq h1]; exact eq_of_beq h2
theorem res_T : resB "T" = false := by
  have h1 : ((" " ++ "T" ++ " " : PySem.Str).cps.toList == [32, 84, 32]) = true := by k_qdec
  have h2 : (infB [32, 84, 32] resv.cps.toList == false) = true := by delta resv strIn; k_qdec
  rw [resB_eq, eq_of_beq h1]; exact eq_of_beq h2
theorem fig_T : figB "T" = false := by
  have h1 : ((" " ++ "T" ++ " " : PySem.Str).cps.toList == [32, 84, 32]) = true := by k_qdec
  have h2 : (infB [32, 84, 32] fwords.cps.toList == false) = true := by decide +kernel
  rw [figB_eq, eq_of_beq h1]; exact eq_of_beq h2
end Mine
end

section
open PySem PySem.W PyProof.Rows
set_option maxRecDepth 100000
namespace Mine
theorem reg_Co11_0 : True := by
  (k_with "nt on" => ((fail_if_success walk_at "off_Co11"); (skip)))
  (k_with "does" => ((fail_if_success walk_at "off_Co11"); first | with_reducible exact is_name_does _ _ _ _ _ _ _ (by walk_at "RS") (by assumption) (by first | with_reducible assumption | decide | omega) | with_reducible exact is_name_does0 _ _ _ _ _ (by walk_at "RS") (by assumption)))
  trivial
def figNm (k : PySem.Str) : Option PySem.Str :=
  (if k = ({ cps := #[90, 69, 82, 79] } : PySem.Str) then some ({ cps := #[90, 69, 82, 79] } : PySem.Str) else (if k = ({ cps := #[90, 69, 82, 79, 83] } : PySem.Str) then some ({ cps := #[90, 69, 82, 79] } : PySem.Str) else (if k = ({ cps := #[90, 69, 82, 79, 69, 83] } : PySem.Str) then some ({ cps := #[90, 69, 82, 79] } : PySem.Str) else (if k = ({ cps := #[83, 80, 65, 67, 69] } : PySem.Str) then some ({ cps := #[83, 80, 65, 67, 69] } : PySem.Str) else (if k = ({ cps := #[83, 80, 65, 67, 69, 83] } : PySem.Str) then some ({ cps := #[83, 80, 65, 67, 69] } : PySem.Str) else (if k = ({ cps := #[72, 73, 71, 72, 45, 86, 65, 76, 85, 69] } : PySem.Str) then some ({ cps := #[72, 73, 71, 72] } : PySem.Str) else (if k = ({ cps := #[72, 73, 71, 72, 45, 86, 65, 76, 85, 69, 83] } : PySem.Str) then some ({ cps := #[72, 73, 71, 72] } : PySem.Str) else (if k = ({ cps := #[76, 79, 87, 45, 86, 65, 76, 85, 69] } : PySem.Str) then some ({ cps := #[76, 79, 87] } : PySem.Str) else (if k = ({ cps := #[76, 79, 87, 45, 86, 65, 76, 85, 69, 83] } : PySem.Str) then some ({ cps := #[76, 79, 87] } : PySem.Str) else (if k = ({ cps := #[81, 85, 79, 84, 69] } : PySem.Str) then some ({ cps := #[81, 85, 79, 84, 69] } : PySem.Str) else (if k = ({ cps := #[81, 85, 79, 84, 69, 83] } : PySem.Str) then some ({ cps := #[81, 85, 79, 84, 69] } : PySem.Str) else none)))))))))))
theorem figNm_none (k : PySem.Str) (h : (decide (k = ({ cps := #[90, 69, 82, 79] } : PySem.Str)) || (decide (k = ({ cps := #[90, 69, 82, 79, 83] } : PySem.Str)) || (decide (k = ({ cps := #[90, 69, 82, 79, 69, 83] } : PySem.Str)) || (decide (k = ({ cps := #[83, 80, 65, 67, 69] } : PySem.Str)) || (decide (k = ({ cps := #[83, 80, 65, 67, 69, 83] } : PySem.Str)) || (decide (k = ({ cps := #[72, 73, 71, 72, 45, 86, 65, 76, 85, 69] } : PySem.Str)) || (decide (k = ({ cps := #[72, 73, 71, 72, 45, 86, 65, 76, 85, 69, 83] } : PySem.Str)) || (decide (k = ({ cps := #[76, 79, 87, 45, 86, 65, 76, 85, 69] } : PySem.Str)) || (decide (k = ({ cps := #[76, 79, 87, 45, 86, 65, 76, 85, 69, 83] } : PySem.Str)) || (decide (k = ({ cps := #[81, 85, 79, 84, 69] } : PySem.Str)) || (decide (k = ({ cps := #[81, 85, 79, 84, 69, 83] } : PySem.Str)) || false))))))))))) = false) : figNm k = none := by
  simp only [Bool.or_eq_false_iff, decide_eq_false_iff_not] at h
  obtain ⟨h1, h2, h3, h4, h5, h6, h7, h8, h9, h10, h11, _⟩ := h
  unfold figNm
  rw [if_neg h1, if_neg h2, if_neg h3, if_neg h4, if_neg h5, if_neg h6, if_neg h7, if_neg h8, if_neg h9, if_neg h10, if_neg h11]
def figureAt (tds : List (PySem.Str × PySem.Str)) (i : Nat) : Option PySem.Str := match tds[i]? with | some td => if td.1 == "word" then figNm td.2 else none | none => none
theorem figure_end0 {tds : List (PySem.Str × PySem.Str)} {i : Nat} (hk : kindAt tds i "word" = false) : figureAt tds i = none := by
  unfold kindAt at hk; unfold figureAt
  cases q : tds[i]? with
  | none => rfl
  | some td => rw [q] at hk; simp only [hk]; rfl
theorem figure_end1 {tds : List (PySem.Str × PySem.Str)} {i : Nat} {td : PySem.Str × PySem.Str} {o : Option PySem.Str} (hk : kindAt tds i "word" = true) (ht : tds[i]? = some td) (h : figNm td.2 = o) : figureAt tds i = o := by
  unfold kindAt at hk; unfold figureAt; rw [ht] at hk ⊢; simp only [hk, h]; rfl
set_option maxHeartbeats 4000000 in
theorem read_figure_does (w : World) (r : Addr) (news : Led) (tds : List (PySem.Str × PySem.Str)) (p : Nat) (hR : RS news r tds p) :
    Does w 64 [.ref r] 70 580 news (fun v news' => (figureAt tds p = none ∧ v = .none ∧ news = news') ∨ (∃ t nm t1 t2, figureAt tds p = some nm ∧ v = .ref t ∧ (t, ({ cls := .type "tuple", data := .seq #[.str "figure" t1, .str nm t2] } : Obj)) ∈ news' ∧ RS news' r tds (p + 1) ∧ Keep news news')) (fun _ _ => False) := by
  refine RS.elim hR fun rd tl e t nv n h1 h2 => ?_
  unfold Does
  k_fill
  intro _ dp un gd cn cs a ccd cl outer A₀ base h₀ L m mg mb mean s Q E B F X N T hk hd hu hret herr
  have hb : Binds w ob64 [.ref r] [("reader", .ref r)] := .plain rfl
  refine wpAny_call ?_
  k_dflt ktr_enter
  k_steps
  all_goals first
    | (refine hret _ _ _ _ (by k_asm) (by k_asm) (.inl ⟨figure_end0 (by assumption), rfl, rfl⟩))
    | (rename Keep news _ => hK; rename RS _ r tds (p + 1) => hR9
       refine hret _ _ _ _ (by k_asm) (by k_asm) (.inr ⟨_, _, _, _, figure_end1 (by assumption) (by assumption) ?_, rfl, List.Mem.head _, RS.sub1 hR9, fun q hq i => List.mem_cons_of_mem _ (hK q hq i)⟩)
       rename _ = ({ cps := _ } : PySem.Str) => hE
       rw [hE]; decide +kernel)
    | (refine hret _ _ _ _ (by k_asm) (by k_asm) (.inl ⟨figure_end1 (by assumption) (by assumption) (figNm_none _ (by assumption)), rfl, rfl⟩))
end Mine
theorem off_Co11 : True := by
  (k_with "off_Co11" => skip)
  trivial
end

section
open PySem PySem.W PyProof.Rows
set_option maxRecDepth 100000
namespace Mine
theorem reg_Co12_0 : True := by
  (k_with "nt on" => ((fail_if_success walk_at "off_Co12"); (skip)))
  (k_with "does" => first | with_reducible exact peek_does _ _ _ _ _ _ _ (by walk_at "RS") (by first | with_reducible assumption | decide | omega) | with_reducible exact peek_does0 _ _ _ _ _ (by walk_at "RS"))
  (k_with "does" => first | with_reducible exact is_kind_does _ _ _ _ _ _ _ _ _ (by walk_at "RS") (by first | with_reducible assumption | decide | omega) | with_reducible exact is_kind_does0 _ _ _ _ _ _ _ (by walk_at "RS"))
  (k_with "does" => first | with_reducible exact is_sign_does _ _ _ _ _ _ _ _ _ (by walk_at "RS") (by first | with_reducible assumption | decide | omega) | with_reducible exact is_sign_does0 _ _ _ _ _ _ _ (by walk_at "RS"))
  (k_with "does" => first | with_reducible exact is_word_does _ _ _ _ _ _ _ (by walk_at "RS") (by first | assumption | exact ⟨by decide +kernel, by decide⟩))
  (k_with "does" => first | with_reducible exact skip_does _ _ _ _ _ _ _ (by walk_at "RS") (by first | assumption | exact ⟨by decide +kernel, by decide⟩))
  (k_with "does" => first | with_reducible exact take_does _ _ _ _ _ _ (by walk_at "RS") (by assumption))
  (k_with "exec While BoolOp" => (k_here; k_dflt (refine whl_start 100 ?_)))
  trivial
set_option maxHeartbeats 4000000 in
theorem is_part_none (w : World) (r : Addr) (news : Led) (tds : List (PySem.Str × PySem.Str)) (p : Nat) (hR : RS news r tds p) (hs : tokIs tds p "sign" "(" = false) :
    Does w 29 [.ref r] 70 580 news (fun v news' => v = .bool false ∧ RS news' r tds p ∧ Keep news news') (fun _ _ => False) := by
  refine RS.elim hR fun rd tl e t nv n h1 h2 => ?_
  unfold Does
  k_fill
  intro _ dp un gd cn cs a ccd cl outer A₀ base h₀ L m mg mb mean s Q E B F X N T hk hd hu hret herr
  have hb : Binds w ob29 [.ref r] [("reader", .ref r)] := .plain rfl
  refine wpAny_call ?_
  k_dflt ktr_enter
  k_steps
  exact hret _ _ _ _ (by k_asm) (by k_asm) ⟨rfl, RS.sub1 hR, fun q hq _ => List.mem_cons_of_mem _ hq⟩
end Mine
theorem off_Co12 : True := by
  (k_with "off_Co12" => skip)
  trivial
end

section
open PySem PySem.W PyProof.Rows
set_option maxRecDepth 100000
namespace Mine
theorem reg_Co13_0 : True := by
  (k_with "nt on" => ((fail_if_success walk_at "off_Co13"); (skip)))
  (k_with "RS" => first | assumption | exact RS.sub1 (by assumption) | exact RS.sub1 (RS.sub1 (by assumption)) | exact RS.sub1 (RS.sub1 (RS.sub1 (by assumption))) | exact RS.sub1 (RS.sub1 (RS.sub1 (RS.sub1 (by assumption)))) | exact RS.sub1 (RS.sub1 (RS.sub1 (RS.sub1 (RS.sub1 (by assumption))))) | exact RS.sub1 (RS.sub1 (RS.sub1 (RS.sub1 (RS.sub1 (RS.sub1 (by assumption)))))))
  (k_with "does" => first | with_reducible exact peek_does _ _ _ _ _ _ _ (by walk_at "RS") (by first | with_reducible assumption | decide | omega) | with_reducible exact peek_does0 _ _ _ _ _ (by walk_at "RS"))
  (k_with "does" => first | with_reducible exact is_kind_does _ _ _ _ _ _ _ _ _ (by walk_at "RS") (by first | with_reducible assumption | decide | omega) | with_reducible exact is_kind_does0 _ _ _ _ _ _ _ (by walk_at "RS"))
  (k_with "does" => first | with_reducible exact is_sign_does _ _ _ _ _ _ _ _ _ (by walk_at "RS") (by first | with_reducible assumption | decide | omega) | with_reducible exact is_sign_does0 _ _ _ _ _ _ _ (by walk_at "RS"))
  (k_with "exec While" => (k_here; k_dflt (refine whl_start 100 ?_)))
  (k_with "exec While Compare" => (k_here; k_dflt (refine whl_start 100 ?_)))
  trivial
set_option maxHeartbeats 8000000 in
theorem is_part_sub (w : World) (r : Addr) (news : Led) (tds : List (PySem.Str × PySem.Str)) (p : Nat) (td0 td1 td2 : PySem.Str × PySem.Str) (hR : RS news r tds p) (ht0 : tds[p]? = some td0) (ht1 : tds[p + 1]? = some td1) (ht2 : tds[p + 2]? = some td2)
    (hs : tokIs tds p "sign" "(" = true) (hs1 : tokIs tds (p + 1) "sign" "(" = false) (hs2 : tokIs tds (p + 1) "sign" ")" = false) (hs3 : tokIs tds (p + 1) "sign" ":" = false) (hs4 : tokIs tds (p + 2) "sign" "(" = false) (hs5 : tokIs tds (p + 2) "sign" ")" = true) :
    Does w 29 [.ref r] 70 580 news (fun v news' => v = .bool false ∧ RS news' r tds p ∧ Keep news news') (fun _ _ => False) := by
  refine RS.elim hR fun rd tl e t nv n h1 h2 => ?_
  unfold Does
  k_fill
  intro _ dp un gd cn cs a ccd cl outer A₀ base h₀ L m mg mb mean s Q E B F X N T hk hd hu hret herr
  have hb : Binds w ob29 [.ref r] [("reader", .ref r)] := .plain rfl
  refine wpAny_call ?_
  k_dflt ktr_enter
  k_steps
  exact hret _ _ _ _ (by k_asm) (by k_asm) ⟨rfl, RS.sub1 hR, fun q hq _ => List.mem_cons_of_mem _ hq⟩
end Mine
theorem off_Co13 : True := by
  (k_with "off_Co13" => skip)
  trivial
end

section
open PySem PySem.W PyProof.Rows PySem.Calls PySem.Spec
set_option maxRecDepth 100000
namespace Mine
structure Fl (B : Heap) (l : List Env) (e dx : Addr) (fl : Value) (h : Heap) : Prop where
  stays : B.StaysIn h
  enew : B.get? e = none
  frames : h.FunFrames B l
  tr : ∃ oe vs T oT ts, h.get? e = some oe ∧ (oe.cls = .ref 122 ∧ oe.dict = some dx) ∧ oe.data = .fields vs ∧ vs[1]? = some (.ref T) ∧ B.get? T = none ∧ T ≠ e ∧ h.get? T = some oT ∧ oT.data = .fields ts ∧ ts[3]? = some fl
theorem dict_mapFields (o : Obj) (f : Array Value → Array Value) : (o.mapFields f).dict = o.dict := by
  obtain ⟨c, d, dt, sl⟩ := o; cases dt <;> rfl
section
variable {M : Model} {A : Around} {E : Value → Shared → Prop} {s : Shared} {B : Heap} {env : Env} {outer : List Env} {L e dx : Addr} {Q : Unit → Shared → Prop}
theorem add_entry {oe : Obj} {vs : Array Value} {head : Value} {hadNext : Bool} (hfr : A.frames = some (env :: outer)) (hl : s.heap.FunFrames B (env :: outer)) (hf : env.frame = some L)
    (he : s.heap.get? e = some oe) (hc : oe.cls = .ref 122 ∧ oe.dict = some dx) (hd : oe.data = .fields vs) (hz : 1 < vs.size) (hst : B.StaysIn s.heap) (hen : B.get? e = none)
    (h : ∀ h', Fl B (env :: outer) e dx (rawInt L) h' → s.heap.UpToSlots h' → Q () { s with heap := h' }) :
    wpAny M A (do let a ← frameOf env; let pl ← entryPlaceOf L hadNext; let b ← EntryCells.newEntry head a .none (rawInt L) .none pl; setField (.ref e) 1 b) Q E s := by
  have eF : e ∉ (env :: outer).filterMap (·.frame) := by
    intro hm
    obtain ⟨_, o, ho, hn⟩ := hl.mem hm
    have : o = oe := Option.some.inj (ho.symm.trans he)
    exact hn vs (this ▸ hd)
  refine wpAny_bind (wpAny_frameOf_fun hfr hl hf fun h₁ sl => wpAny_bind (wpAny_entryPlaceOf fun pl hpl => ?_))
  unfold EntryCells.newEntry newFields
  refine wpAny_bind (wpAny_newObj_type ?_ (hpl.sizeOk5 _ _ _ _ _))
  have he₁ : h₁.get? e = some oe := (sl.2.1 e eF).trans he
  have hst₁ : B.StaysIn h₁ := by
    intro b o hb
    rw [sl.2.1 b]
    · exact hst b o hb
    · intro hm; rw [(hl.mem hm).1] at hb; cases hb
  generalize hO : ({ cls := .type "traceback", dict := none, data := .fields ([head, .ref L, .none, rawInt L, .none] ++ (if pl.isEmpty then List.replicate 6 Value.none else pl)).toArray } : Obj) = O
  have hOd : O.data = .fields ([head, .ref L, .none, rawInt L, .none] ++ (if pl.isEmpty then List.replicate 6 Value.none else pl)).toArray := by rw [← hO]
  have hOf : O.isFreed = false := Obj.isFreed_of_fields hOd
  have he₂ : (h₁.push O).get? e = some oe := Heap.get?_push_of_some _ he₁
  have neT : h₁.objs.size ≠ e := Nat.ne_of_gt (Heap.lt_size he₁)
  refine wpAny_setField he₂ hd hz (h _ ?_ ?_)
  · have hd₃ := Obj.data_mapFields hd (·.setIfInBounds 1 (Value.ref h₁.objs.size))
    have old : ∀ b o, b ≠ e → h₁.get? b = some o → ((h₁.push O).update e (Obj.mapFields (·.setIfInBounds 1 (Value.ref h₁.objs.size)))).get? b = some o := by
      intro b o hb ho
      rw [Heap.get?_update_other _ _ (Ne.symm hb)]
      exact Heap.get?_push_of_some _ ho
    refine ⟨fun b o hb => old b o (fun z => by rw [z, hen] at hb; cases hb) (hst₁ b o hb), hen, hl.of_keeps fun b o hb hn => ?_, ?_⟩
    · obtain ⟨ws, hw⟩ := sl.2.2 b o hb
      refine ⟨_, old b _ (fun z => ?_) hw, rfl⟩
      rw [z, he] at hb
      exact hn vs (Option.some.inj hb ▸ hd)
    · refine ⟨_, _, h₁.objs.size, O, _, Heap.get?_update_self _ he₂ (Obj.isFreed_of_fields hd₃), ⟨(Obj.cls_mapFields _ _).trans hc.1, (dict_mapFields _ _).trans hc.2⟩, hd₃, by simp [hz], hst₁.fresh, neT, ?_, hOd, ?_⟩
      · rw [Heap.get?_update_other _ _ (Ne.symm neT)]
        exact Heap.get?_push_size _ hOf
      · simp
  · intro b o hb hn
    obtain ⟨ws, hw⟩ := sl.2.2 b o hb
    refine ⟨ws, ?_⟩
    have hbe : b ≠ e := by
      rintro rfl
      exact hn vs (Option.some.inj (hb.symm.trans he) ▸ hd)
    show ((h₁.push O).update e _).get? b = _
    rw [Heap.get?_update_other _ _ (Ne.symm hbe)]
    exact Heap.get?_push_of_some _ hw
theorem note_first {oe : Obj} {vs : Array Value} (hfr : A.frames = some (env :: outer)) (hl : s.heap.FunFrames B (env :: outer)) (hf : env.frame = some L)
    (he : s.heap.get? e = some oe) (hc : oe.cls = .ref 122 ∧ oe.dict = some dx) (hd : oe.data = .fields vs) (h1 : vs[1]? = some .none) (hst : B.StaysIn s.heap) (hen : B.get? e = none)
    (h : ∀ h', Fl B (env :: outer) e dx (rawInt L) h' → s.heap.UpToSlots h' → Q () { s with heap := h' }) : wpAny M A (noteFrame (.ref e) env) Q E s := by
  unfold noteFrame
  rw [hf]
  refine wpAny_bind (wpAny_field he hd h1 ?_)
  rw [if_neg (by decide)]
  exact add_entry hfr hl hf he hc hd (Array.getElem?_eq_some_iff.mp h1).1 hst hen h
theorem set_fl {fl : Value} {l : List Env} {x : Value} {T : Addr} {vs ts : Array Value} {oe oT : Obj} (R : Fl B l e dx fl s.heap) (he : s.heap.get? e = some oe) (hd : oe.data = .fields vs) (h1 : vs[1]? = some (.ref T)) (hT : s.heap.get? T = some oT) (hdT : oT.data = .fields ts) (h3 : ts[3]? = some fl)
    (hBT : B.get? T = none) (ne : T ≠ e) (hc : oe.cls = .ref 122 ∧ oe.dict = some dx) (h : ∀ h', Fl B l e dx x h' → h'.get? e = some oe → s.heap.UpToSlots h' → Q () { s with heap := h' }) : wpAny M A (setField (.ref T) 3 x) Q E s := by
  have h3z : 3 < ts.size := (Array.getElem?_eq_some_iff.mp h3).1
  have other : ∀ b, b ≠ T → (s.heap.update T (Obj.mapFields (·.setIfInBounds 3 x))).get? b = s.heap.get? b := fun b hb => Heap.get?_update_other _ _ (Ne.symm hb)
  have nrec : ∀ b o, s.heap.get? b = some o → (∀ vs, o.data ≠ .fields vs) → b ≠ T := by
    rintro b o hb hn rfl
    exact hn ts (Option.some.inj (hb.symm.trans hT) ▸ hdT)
  refine wpAny_setField hT hdT h3z (h _ ⟨fun b o hb => ?_, R.enew, R.frames.of_keeps fun b o hb hn => ⟨o, (other b (nrec b o hb hn)).trans hb, rfl⟩, ?_⟩ ((other e (Ne.symm ne)).trans he) fun b o hb hn => ⟨o.slots, (other b (nrec b o hb hn)).trans hb⟩)
  · rw [other b (by rintro rfl; rw [hBT] at hb; cases hb)]
    exact R.stays b o hb
  · have hd3 := Obj.data_mapFields hdT (·.setIfInBounds 3 x)
    exact ⟨oe, vs, T, _, _, (other e (Ne.symm ne)).trans he, hc, hd, h1, hBT, ne, Heap.get?_update_self _ hT (Obj.isFreed_of_fields hd3), hd3, by simp [h3z]⟩
theorem note_next (R : Fl B (env :: outer) e dx .none s.heap) (hfr : A.frames = some (env :: outer)) (hf : env.frame = some L)
    (h : ∀ h', Fl B (env :: outer) e dx (rawInt L) h' → s.heap.UpToSlots h' → Q () { s with heap := h' }) : wpAny M A (noteFrame (.ref e) env) Q E s := by
  obtain ⟨oe, vs, T, oT, ts, he, hc, hd, h1, hBT, ne, hT, hdT, h3⟩ := R.tr
  unfold noteFrame
  rw [hf]
  refine wpAny_bind (wpAny_field he hd h1 ?_)
  rw [if_pos (show (Value.ref T != Value.none) = true from by simp)]
  refine wpAny_bind (wpAny_field hT hdT h3 ?_)
  rw [if_neg (show ¬ ((Value.none == rawInt L) = true) from by simp [rawInt])]
  refine wpAny_bind (set_fl (x := .none) R he hd h1 hT hdT h3 hBT ne hc fun h₁ R₁ he₁ u₁ => ?_)
  exact add_entry hfr R₁.frames hf he₁ hc hd (Array.getElem?_eq_some_iff.mp h1).1 R₁.stays R₁.enew fun h' R' u' => h h' R' (u₁.trans u')
theorem note_again {l : List Env} (R : Fl B l e dx (rawInt L) s.heap) (hf : env.frame = some L) (h : Q () s) : wpAny M A (noteFrame (.ref e) env) Q E s := by
  obtain ⟨oe, vs, T, oT, ts, he, hc, hd, h1, hBT, ne, hT, hdT, h3⟩ := R.tr
  unfold noteFrame
  rw [hf]
  refine wpAny_bind (wpAny_field he hd h1 ?_)
  rw [if_pos (show (Value.ref T != Value.none) = true from by simp)]
  refine wpAny_bind (wpAny_field hT hdT h3 ?_)
  rw [if_pos (show (rawInt L == rawInt L) = true from by simp)]
  exact wpAny_pure h
theorem fl_clear {l : List Env} {fl : Value} (R : Fl B l e dx fl s.heap) (h : ∀ h', Fl B l e dx .none h' → s.heap.UpToSlots h' → Q () { s with heap := h' }) : wpAny M A (setFlight (.ref e) none) Q E s := by
  obtain ⟨oe, vs, T, oT, ts, he, hc, hd, h1, hBT, ne, hT, hdT, h3⟩ := R.tr
  unfold setFlight
  refine wpAny_bind (wpAny_field he hd h1 ?_)
  rw [if_pos (show (Value.ref T != Value.none) = true from by simp)]
  exact set_fl (x := .none) R he hd h1 hT hdT h3 hBT ne hc fun h' R' _ u => h h' R' u
end
end Mine
end

section
open PySem PySem.W PyProof.Rows PySem.Calls PySem.Spec
set_option maxRecDepth 100000
namespace Mine
abbrev gfBm : List Value := [.ref 97, .type "Exception", .type "BaseException", .type "object"]
abbrev gfCls : Obj := excClassObj "GrammarFault" "GrammarFault" 122 121 [.ref 97] gfBm true [] [] false none none (some (.ref 113)) none (some (.str "GrammarFault" 354)) (some (.str "GrammarFault" 362)) (some (.bool true)) "Exception.__new__"
abbrev exI (ar : Addr) : Obj := { cls := .ref 122, data := .fields #[.ref ar, .none, .none, .none, .bool false, .none] }
section
variable {prog : Program} {w : World} {A : Around} {R : Result → Shared → Prop} {h : Heap} {g : Array GenState} {d : Drawn} {t : Nat} {os : OsState}
theorem gf_alloc {rest : List Value} (hC : h.get? 122 = some gfCls) (hrest : rest.length ≤ sizeLine)
    (hq : R (.ok (.ret (.ref (h.objs.size + 1)))) ⟨(h.push { cls := .type "tuple", data := .seq rest.toArray }).push (exI h.objs.size), g, d, t, os⟩) :
    codeAny (model prog w) A (.builtin "Exception.__new__" ⟨.ref 122 :: rest, []⟩) R ⟨h, g, d, t, os⟩ := by
  have Fn := PySem.F.excBase_Exception
  have hends := Fn.ends
  have hcB : (Value.ref 122 :: gfBm).contains (.type "Exception") = true := by decide
  have hcA : (Value.ref 122 :: gfBm).contains (.type "AttributeError") = false := by decide
  have hcN : (Value.ref 122 :: gfBm).contains (.type "NameError") = false := by decide
  refine codeAny_builtinAt Fn.entry ?_
  unfold Builtin.«BaseException.__new__»
  refine PySem.wpAt_bind ?_
  show PySem.wpAt _ _ _ (stack >>= _) _ _ _
  refine PySem.wpAt_bind (PySem.wpAt_stack fun p below => PySem.wpAt_of_wpAny ?_)
  wp_walk
  refine PySem.wpAt_of_wpAny ?_
  rw [Fn.owner]
  repeat (first | with_reducible refine wpAny_madeHere_exc Fn.canon hC ?_ | with_reducible refine wpAny_loadPart_at hC ?_ | (with_reducible refine wpAny_isSubtype_exc hC ?_; first | rw [hcB] | rw [hcA] | rw [hcN]) | wp_step)
  show R _ _
  rw [Heap.size_push]
  exact hq
theorem gf_check (X : (KK w.params).In h) (rest : List Value) : Looks (model prog w) h (checkBuiltinCall "Exception.__new__" ⟨.ref 122 :: rest, []⟩) () := by
  refine Looks.of_peek X ?_
  kernel_rfl
theorem gf_type {rest : List Value} {fI : Addr} (X : (KK w.params).In h) (hC : h.get? 122 = some gfCls) (hrest : rest.length ≤ sizeLine)
    (hi : Looks (model prog w) h (typeLookup (.ref 122) "__init__") (some (.ref fI))) (hb : ∀ self, Looks (model prog w) h (bindSpecial (.ref fI) self) (.ref fI, [self]))
    {Q : Fin → Shared → Prop} {E : Value → Shared → Prop}
    (hq : wpAny (model prog w) A (call (.ref fI) (.ref (h.objs.size + 1) :: rest)) (fun r s' => r = .none ∧ Q (.done (.ret (.ref (h.objs.size + 1)))) s') E ⟨(h.push { cls := .type "tuple", data := .seq rest.toArray }).push (exI h.objs.size), g, d, t, os⟩) :
    wpAny (model prog w) A (Builtin.«type.__call__» ⟨.ref 122 :: rest, []⟩) Q E ⟨h, g, d, t, os⟩ := by
  have Fn := PySem.F.excBase_Exception
  repeat (first | with_reducible refine wpAny_loadPart_at hC ?_ | with_reducible refine wpAny_madeBy_exc hC ?_ | wp_step)
  refine codeAny_call_builtin_code (Code.quiet_builtin _ Fn.quiet) ((gf_check X rest).at ?_)
  refine gf_alloc hC hrest ?_
  show wpAny _ _ _ _ _ _
  have kp : ∀ b o, h.get? b = some o → ((h.push { cls := .type "tuple", data := .seq rest.toArray }).push (exI h.objs.size)).get? b = some o := fun b o e => Heap.get?_push_of_some _ (Heap.get?_push_of_some _ e)
  have hC₁ := kp _ _ hC
  have hget : ((h.push { cls := .type "tuple", data := .seq rest.toArray }).push (exI h.objs.size)).get? (h.objs.size + 1) = some (exI h.objs.size) := by heap_get
  have hcC : (Value.ref 122 :: gfBm).contains (.ref 122) = true := by decide
  unfold isInstance
  repeat (first | with_reducible refine wpAny_loadPart_at hget ?_ | (with_reducible refine wpAny_isSubtype_exc hC₁ ?_; rw [hcC]) | wp_step)
  show wpAny _ _ (typeLookup (.ref 122) _) _ _ _
  refine (hi.keeps kp).here ?_
  refine wpAny_holding (wpAny_bind (((hb (.ref (h.objs.size + 1))).keeps kp).here ?_))
  refine wpAny_bind (wpAny_mono hq (fun r s' hr => ?_) fun _ _ x => x)
  obtain ⟨rfl, hQ⟩ := hr
  wp_walk
  exact hQ
theorem gf_core {rest : List Value} {fI : Addr} (X : (KK w.params).In h) (hC : h.get? 122 = some gfCls) (hrest : rest.length ≤ sizeLine)
    (hi : Looks (model prog w) h (typeLookup (.ref 122) "__init__") (some (.ref fI))) (hb : ∀ self, Looks (model prog w) h (bindSpecial (.ref fI) self) (.ref fI, [self]))
    (hq : codeAny (model prog w) (A.under (.builtin "type.__call__" ⟨.ref 122 :: rest, []⟩)) (.call (.ref fI) ⟨.ref (h.objs.size + 1) :: rest, []⟩) (InitBack (h.objs.size + 1) R) ⟨(h.push { cls := .type "tuple", data := .seq rest.toArray }).push (exI h.objs.size), g, d, t, os⟩) :
    codeAny (model prog w) A (.call (.ref 122) ⟨rest, []⟩) R ⟨h, g, d, t, os⟩ := by
  have f1 := tc_lookup
  have f2 := tc_bind (.ref 122)
  have hT : (⟨h, g, d, t, os⟩ : Shared).TypeIs (.ref 122) "type" := ⟨_, hC, rfl⟩
  refine codeAny_of_tree ?_
  show wpAny _ _ (callAny (.ref 122) _) _ _ _
  repeat (any_goals (first | assumption | with_reducible refine wpAny_loadPart_at hC ?_ | wp_step))
  refine ⟨rfl, ?_⟩
  refine codeAny_call_builtin_at (Code.quiet_builtin _ (by decide +kernel)) entry_typeCall (wpAny_check_type_call_sub hC (gf_type X hC hrest hi hb (wpAny_call (codeAny_mono hq fun r s' z => ?_))))
  rcases r with e | (v | _ | _ | _) <;> first | exact z | exact z.elim
end
theorem gf_at {w : World} {h : Heap} (X : (KK w.params).In h) : h.get? 122 = some gfCls := X _ _ rfl
theorem gf_mro {w : World} : mroIn (KK w.params) 122 (.type "object") = some true := by kernel_rfl
theorem gf_cls {w : World} : (clsIn (KK w.params) 122).map (fun cd => (cd.mro, cd.hasDict)) = some (.ref 122 :: gfBm, true) := by kernel_rfl
theorem gf_init {w : World} : findIn (KK w.params) (.ref 122) "__init__" = some (some (.ref 87)) := by kernel_rfl
theorem gf_fn {w : World} : typeIn (KK w.params) (.ref 87) = some (.type "function") := by kernel_rfl
theorem gf_sa {w : World} : findIn (KK w.params) (.ref 122) "__setattr__" = some (some (.builtin "object.__setattr__")) := by kernel_rfl
theorem gf_meta : typeOf (.type "Exception") = pure (.type "type") := by kernel_rfl
theorem gf_find {w : World} : findCls (KK w.params) (.type "Exception") (.type "type") "__init__" = some (.val (.builtin "Exception.__init__")) := by kernel_rfl
theorem gf_what {w : World} : findIn (KK w.params) (.ref 122) "what" = some none := by kernel_rfl
theorem gf_att {w : World} : findIn (KK w.params) (.ref 122) "at" = some none := by kernel_rfl
abbrev exObj (dx ar : Addr) : Obj := { cls := .ref 122, dict := some dx, data := .fields #[.ref ar, .none, .none, .none, .bool false, .none] }
section
variable {prog : Program} {w : World} {A : Around} {s : Shared} {h₀ : Heap} {L x ar dx : Addr} {m : PySem.Str → Option Value} {news : Led} {E : Value → Shared → Prop}
theorem gf_call {pos : List Value} {Q : Value → Shared → Prop} (F : Fr h₀ L s.heap m) (X₀ : (KK w.params).In h₀) (N : News h₀ L s.heap news) (hz : pos.length ≤ sizeLine)
    (h : ∀ x ar h', Fr h₀ L h' m → News h₀ L h' ((x, exI ar) :: (ar, { cls := .type "tuple", data := .seq pos.toArray }) :: news) → (∀ p ∈ news, p.1 < ar) → ar < x →
      codeAny (model prog w) (A.under (.builtin "type.__call__" ⟨.ref 122 :: pos, []⟩)) (.call (.ref 87) ⟨.ref x :: pos, []⟩) (InitBack x fun r s' => match r with | .ok (.ret v) => Q v s' | .ok _ => False | .error e => E e s') { s with heap := h' }) :
    wpAny (model prog w) A (call (.ref 122) pos []) Q E s := by
  have X := X₀.keeps F.keep
  obtain ⟨hh, g, d, t, os⟩ := s
  refine wpAny_call (gf_core X (gf_at X) hz (looks_findIn X gf_init) (fun self => bind_fn X self gf_fn) (h _ hh.objs.size _ ((F.push _).push _) ?_ (fun p hp => Heap.lt_size (N p hp).1) (Nat.lt_succ_self _)))
  have := (N.push F { cls := .type "tuple", data := .seq pos.toArray }).push (F.push _) (exI hh.objs.size)
  rwa [Heap.size_push] at this
theorem gf_open {R : Result → Shared → Prop} {ox : Obj} {od : Option Obj} {name : PySem.Str} {tk : Tok} {v : Value} (X : (KK w.params).In s.heap) (I : InstAt s.heap x ox 122 od) (ha : findIn (KK w.params) (.ref 122) name = some none)
    (h : wpAny (model prog w) A.in1 (Builtin.ObjectAttr.storeInOwnDict (.ref x) (.ref 122) (.str name tk) name v false)
      (fun fin s' => match fin with | .done f => R (.ok f) s' | .again c' => c'.quiet = true ∧ codeAny (model prog w) A c' R s') (fun e s' => R (.error e) s') s) :
    codeAny (model prog w) A (.call (.builtin "object.__setattr__") ⟨[.ref x, .str name tk, v], []⟩) R s := by
  have SF := PySem.F.store_object
  obtain ⟨cd, hc, ho⟩ := Option.map_eq_some_iff.mp (gf_cls (w := w))
  have sub : Looks (model prog w) s.heap (isInstance (.ref x) (.type "object")) true := I.type.andThen (looks_mroIn X gf_mro)
  refine codeAny_call_builtin SF.slot.plain SF.entry (@check_slot (model prog w) _ _ s "object.__setattr__" "object" "__setattr__" (.ref x) [.str name tk, v] [] _ SF.kind SF.split sub (SF.args (.ref x) (.str name tk) v) ?_)
  have hm : Looks (model prog w) s.heap (mroOf (.ref 122)) cd.mro := (looks_clsIn X hc).andThen .now
  rw [osa_eq, refuse_eq]
  refine wpAny_bind (wpAny_bind (I.type.here (wpAny_bind (hm.here ?_))))
  rw [(Prod.mk.inj ho).1, refuseLoop_ref, refuseLoop_ref, PySem.F.store_Exception.passes]
  exact wpAny_pure (wpAny_bind (I.type.here (wpAny_bind ((looks_findIn X ha).here (wpAny_bind (Looks.now.here h))))))
theorem gf_init_call {what : Value} {news : Led} {Q : Value → Shared → Prop} (F : Fr h₀ L s.heap m) (X₀ : (KK w.params).In h₀) (N : News h₀ L s.heap news) (hm : (x, exI ar) ∈ news)
    (h : ∀ D h' news', Fr h₀ L h' m → News h₀ L h' news' → (x, exI D) ∈ news' → (∀ q ∈ news, q.1 ≠ x → q ∈ news') → Q .none { s with heap := h' }) :
    wpAny (model prog w) A (call (.builtin "Exception.__init__") [.ref x, what]) Q E s := by
  have Fn := PySem.F.excBase_Exception
  have X := X₀.keeps F.keep
  obtain ⟨hh, g, d, t, os⟩ := s
  have hC := gf_at X
  have he := (N _ hm).1
  have hcB : (Value.ref 122 :: gfBm).contains (.type "Exception") = true := by decide
  refine wpAny_call (codeAny_call_builtin Fn.init.plain Fn.initEntry ?_)
  have hshort := Fn.noStar
  simp only [checkBuiltinCall, Fn.initKind, Fn.initSplit, Fn.initRow]
  repeat (first | (with_reducible refine wpAny_loadPart_at he ?_) | with_reducible refine wpAny_loadPart_at hC ?_ | (with_reducible refine wpAny_isSubtype_exc hC ?_; rw [hcB]) | wp_step)
  have N2 : News h₀ L hh ((x, exI ar) :: news.filter (fun q => q.1 != x)) := by
    intro q hq
    rcases List.mem_cons.mp hq with rfl | hq
    · exact N _ hm
    · exact N q ((List.mem_filter.mp hq).1)
  have N3 := N2.push F { cls := .type "tuple", data := .seq [what].toArray }
  obtain ⟨F4, N4⟩ := news_upd (d := x) (pre := [(hh.objs.size, { cls := .type "tuple", data := .seq [what].toArray })]) (f := Obj.mapFields (·.setIfInBounds 0 (.ref hh.objs.size))) (F.push _) N3
    (fun p hp => by cases List.mem_singleton.mp hp; exact Nat.ne_of_gt (Heap.lt_size he)) (fun p hp => by simpa using (List.mem_filter.mp hp).2) rfl rfl
  refine h hh.objs.size _ _ F4 N4 ?_ fun q hq ne => ?_
  · exact .tail _ (.head _)
  · exact .tail _ (.tail _ (List.mem_filter.mpr ⟨hq, by simpa using ne⟩))
theorem gf_set0 {D : Addr} {name : PySem.Str} {v : Value} {news : Led} {Q : Unit → Shared → Prop} (F : Fr h₀ L s.heap m) (X₀ : (KK w.params).In h₀) (N : News h₀ L s.heap news) (hm : (x, exI D) ∈ news) (ha : findIn (KK w.params) (.ref 122) name = some none)
    (h : ∀ dx h' news', Fr h₀ L h' m → News h₀ L h' news' → (dx, dictOf [⟨PyData.keyHash w.params name, .str name (s.toks + 1), v⟩] 1) ∈ news' → (x, exObj dx D) ∈ news' → (∀ q ∈ news, q.1 ≠ x → q ∈ news') → (∀ q ∈ news, q.1 < dx) → Q () { s with heap := h', toks := s.toks + 2 }) :
    wpAny (model prog w) A (setAttr (.ref x) name v) Q E s := by
  have X := X₀.keeps F.keep
  have he : s.heap.get? x = some (exI D) := (N _ hm).1
  obtain ⟨hh, g, d, t, os⟩ := s
  have I : InstAt hh x (exI D) 122 none := ⟨he, rfl, rfl, trivial⟩
  refine set_plain X I gf_sa (gf_open (s := ⟨hh, g, d, t + 1, os⟩) X I ha ?_)
  obtain ⟨cd, hc, ho⟩ := Option.map_eq_some_iff.mp (gf_cls (w := w))
  refine wpAny_bind (wpAny_pure (wpAny_bind (wpAny_bind (wpAny_loadPart he (wpAny_bind ((looks_clsIn (M := model prog w) X hc).at ?_))))))
  rw [(Prod.mk.inj ho).2]
  have N2 : News h₀ L hh ((x, exI D) :: news.filter (fun q => q.1 != x)) := by
    intro q hq
    rcases List.mem_cons.mp hq with rfl | hq
    · exact N _ hm
    · exact N q ((List.mem_filter.mp hq).1)
  have N3 := N2.push F emptyDict
  have lt : ∀ q ∈ news, q.1 < hh.objs.size := fun q hq => Heap.lt_size (N q hq).1
  obtain ⟨F4, N4⟩ := news_upd (d := x) (pre := [(hh.objs.size, emptyDict)]) (f := fun o => { o with dict := some hh.objs.size }) (F.push _) N3
    (fun p hp => by cases List.mem_singleton.mp hp; exact Nat.ne_of_gt (Heap.lt_size he)) (fun p hp => by simpa using (List.mem_filter.mp hp).2) rfl rfl
  obtain ⟨F5, N5⟩ := news_upd (d := hh.objs.size) (pre := []) (f := Obj.putName name (PyData.keyHash w.params name) (.str name (t + 1)) v) F4 N4
    (fun p hp => by cases hp) (fun p hp => by
      rcases List.mem_cons.mp hp with rfl | hp
      · exact Nat.ne_of_lt (Heap.lt_size he)
      · exact Nat.ne_of_lt (lt p (List.mem_filter.mp hp).1)) rfl (by simp [Obj.putName]; rfl)
  refine wpAny_bind (wpAny_alloc (wpAny_bind (wpAny_updatePart (Heap.get?_push_of_some _ he) ?_)))
  refine wpAny_pure (a := some hh.objs.size) ?_
  show wpAny _ _ (Builtin.ObjectAttr.storeInDict hh.objs.size (.str name _) name v) _ _ _
  unfold Builtin.ObjectAttr.storeInDict Builtin.ObjectAttr.newKeyGuard nsSet
  have D0 := (N4 _ (.head _)).1
  have D1 := (N5 _ (.head _)).1
  refine wpAny_bind (wpAny_pure (wpAny_bind (wpAny_bind (wpAny_bind (wpAny_askSetting (wpAny_pure (wpAny_bind (wpAny_mkText (wpAny_bind (wpAny_loadPart D0 ?_))))))))))
  refine wpAny_updatePart D0 ?_
  refine wpAny_bind (wpAny_lookBehind D1 rfl ?_)
  exact wpAny_pure (h _ _ _ F5 N5 (.head _) (.tail _ (.head _)) (fun q hq ne => .tail _ (.tail _ (List.mem_filter.mpr ⟨hq, by simpa using ne⟩))) lt)
theorem gf_set1 {D : Addr} {e0 : DictEntry} {es' : List DictEntry} {n n' : Nat} {name : PySem.Str} {v : Value} {news : Led} {Q : Unit → Shared → Prop} (F : Fr h₀ L s.heap m) (X₀ : (KK w.params).In h₀) (N : News h₀ L s.heap news) (hm : (x, exObj dx D) ∈ news) (hd : (dx, dictOf [e0] n) ∈ news) (ha : findIn (KK w.params) (.ref 122) name = some none)
    (hc : aRefKeyMayBeTheName name [e0].toArray = false) (e : (putL name (PyData.keyHash w.params name) (.str name (s.toks + 1)) v [e0], putN name [e0] n) = (es', n')) (hz : es'.length ≤ 1000)
    (h : ∀ h' news', Fr h₀ L h' m → News h₀ L h' news' → (dx, dictOf es' n') ∈ news' → (∀ q ∈ news, q.1 ≠ dx → q ∈ news') → Q () { s with heap := h', toks := s.toks + 2 }) :
    wpAny (model prog w) A (setAttr (.ref x) name v) Q E s := by
  have X := X₀.keeps F.keep
  have he : s.heap.get? x = some (exObj dx D) := (N _ hm).1
  have hdx : s.heap.get? dx = some (dictOf [e0] n) := (N _ hd).1
  obtain ⟨hh, g, d, t, os⟩ := s
  have I : InstAt hh x (exObj dx D) 122 (some (dictOf [e0] n)) := ⟨he, rfl, rfl, hdx⟩
  refine set_plain X I gf_sa (gf_open (s := ⟨hh, g, d, t + 1, os⟩) X I ha ?_)
  obtain ⟨cd, hcd, ho⟩ := Option.map_eq_some_iff.mp (gf_cls (w := w))
  refine wpAny_bind (wpAny_pure (wpAny_bind (wpAny_bind (wpAny_loadPart he (wpAny_bind ((looks_clsIn (M := model prog w) X hcd).at ?_))))))
  rw [(Prod.mk.inj ho).2]
  obtain ⟨e1, e2⟩ := Prod.mk.inj e
  have N2 : News h₀ L hh ((dx, dictOf [e0] n) :: news.filter (fun q => q.1 != dx)) := by
    intro q hq
    rcases List.mem_cons.mp hq with rfl | hq
    · exact N _ hd
    · exact N q ((List.mem_filter.mp hq).1)
  obtain ⟨F5, N5⟩ := news_upd (d := dx) (pre := []) (f := Obj.putName name (PyData.keyHash w.params name) (.str name (t + 1)) v) F N2
    (fun p hp => by cases hp) (fun p hp => by simpa using (List.mem_filter.mp hp).2) (by rw [putName_dict, e1, e2]) rfl
  refine wpAny_pure (a := some dx) ?_
  show wpAny _ _ (Builtin.ObjectAttr.storeInDict dx (.str name _) name v) _ _ _
  unfold Builtin.ObjectAttr.storeInDict Builtin.ObjectAttr.newKeyGuard nsSet
  have D1 := (N5 _ (.head _)).1
  refine wpAny_bind (wpAny_pure (wpAny_bind (wpAny_bind (wpAny_bind (wpAny_askSetting (wpAny_pure (wpAny_bind (wpAny_mkText (wpAny_bind (wpAny_loadPart hdx ?_))))))))))
  dsimp only [dictOf]
  rw [hc]
  refine wpAny_updatePart hdx ?_
  refine wpAny_bind (wpAny_lookBehind D1 (pastItsLine_dict (by rw [List.size_toArray, sizeLine_eq]; omega)) ?_)
  exact wpAny_pure (h _ _ F5 N5 (.head _) (fun q hq ne => .tail _ (List.mem_filter.mpr ⟨hq, by simpa using ne⟩)))
end
end Mine
end

section
open PySem PySem.W PyProof.Rows
open PySem PySem.W PyProof.Rows
set_option maxRecDepth 100000
namespace Mine
theorem reg_Ex3g_0 : True := by
  (k_with "nt on" => ((fail_if_success walk_at "off_Ex3g"); (skip)))
  (k_with "getMethod ref" => (k_here; k_dflt (refine' rd_method ?k1 ?k2 ?k3 ?k4 ?k5 ?k6 ?k7 ?k8 ?_; (case k1 => k_asm); (case k2 => k_asm); (case k3 => k_asm); (case k4 => walk_at "RS"); (case k5 => k_is); (case k6 => k_is); (case k7 => k_is); (case k8 => decide); k_whole)))
  (k_with "ktr_enter" => ((fail_if_success walk_at "off_Ex3g"); (refine' code_def ?k1 ?k2 ?k3 ?k4 ?k5 ?kA ?kF ?kK ?k6 ?k7 ?k8 ?k9 ?kB ?_ ?c2 ?c3 ?c4 ?c5; (case kA => exact rfl); (case kF => exact rfl); (case kK => first | assumption | exact rfl); (case k1 => k_asm); (case k2 => k_asm); (case k3 => k_asm); (case k4 => k_asm); (case k5 => k_asm); (case k6 => k_is); (case k7 => k_is); (case k8 => walk_at "room0"); (case k9 => (rename Binds _ _ _ _ => hbX; exact hbX _ (by k_in))); (case c5 => decide); (case kB => exact locs rfl); (case c2 => exact rfl); (case c3 => exact rfl); (case c4 => exact rfl); k_whole; intro g' L' h' FG'; refine' (let mm9 : PySem.Str → Option Value := _; fun (F' : Fr _ _ _ mm9) N' B' X' T' => ?_); (try dsimp only); refine' (let e9 : PySem.Env := _; let A9 : PySem.Around := PySem.Around.deeper _ e9; let rk := resR _ _; let qk := outQ _ _ _ _ rk; let ek := outE _ A9 e9 rk; (?_ : wpAny _ A9 (execs _ e9) qk ek _)); (have hV9 : FnEnv e9 _ := FnEnv.of (by exact rfl)))))
  trivial
theorem truth_led {prog : Program} {w : World} {A : Around} {E : Value → Shared → Prop} {s : Shared} {h₀ : Heap} {L l : Addr} {news : Led} {toks : List Value} {n : Nat} {Q : Bool → Shared → Prop} (N : News h₀ L s.heap news) (hl : (l, W.listOf toks.toArray n) ∈ news) (hz : toks.length ≤ 1000) (h0 : 0 < toks.length)
    (h : Q true { s with toks := s.toks + 1 + 1 }) : wpAny (model prog w) A (truthy (.ref l)) Q E s := by
  refine wpAny_truthy_list (News.isList N hl) (by rw [List.size_toArray]; omega) ?_
  have : (!toks.toArray.isEmpty) = true := by cases toks with | nil => exact absurd h0 (Nat.lt_irrefl _) | cons => rfl
  rw [this]; exact h
theorem reg_Ex3g_1 : True := by
  (k_with "truthy ref" => ((fail_if_success walk_at "off_Ex3g"); (k_here; k_dflt (refine' truth_led ?k1 ?k2 ?k3 ?k4 ?_; (case k1 => k_asm); (case k2 => k_mem); (case k3 => assumption); (case k4 => omega); k_whole))))
  trivial
abbrev exDict (k1 k2 : Int) (t1 t2 : Nat) (what : PySem.Str) (t : Nat) (ta : Addr) (n : Nat) : Obj := { cls := .type "dict", data := .dict #[⟨k1, .str "what" t1, .str what t⟩, ⟨k2, .str "at" t2, .ref ta⟩] n }
def FaultAt (news : Led) (e : Addr) (i : Nat) : Prop := ∃ dx ar ta k1 k2 t1 t2 what t n u1 u2 tn, (e, exObj dx ar) ∈ news ∧ (dx, exDict k1 k2 t1 t2 what t ta n) ∈ news ∧ (ta, tupO [.int 3 u1, .int ((i : Int) + 1) u2] tn) ∈ news
theorem reg_Ex3g_2 : True := by
  (k_with "call builtin:Exception.__init__" => ((fail_if_success walk_at "off_Ex3g"); (k_here; k_dflt (refine' gf_init_call ?k1 ?k2 ?k3 ?k4 ?_; (case k1 => k_asm); (case k2 => k_asm); (case k3 => k_asm); (case k4 => first | assumption | exact List.Mem.head _); k_whole); intro D2 h2 n2 F2 N2 hm2 hk2)))
  (k_with "getMethod type:Exception" => ((fail_if_success walk_at "off_Ex3g"); (k_here; refine' method_type (v := .builtin "Exception.__init__") ?F ?X gf_meta (by decide +kernel) gf_find rfl ?_; (case F => k_asm); (case X => k_asm))))
  (k_with "setAttr ref" => ((fail_if_success walk_at "off_Ex3g"); (k_here; first | (k_dflt (refine' gf_set0 ?k1 ?k2 ?k3 ?k4 ?k5 ?_; (case k1 => k_asm); (case k2 => k_asm); (case k3 => k_asm); (case k4 => assumption); (case k5 => first | exact gf_what | exact gf_att); k_whole); intro dx2 h1 n1 F1 N1 hd1 hm1 hk1 hl1) | (k_dflt (refine' gf_set1 ?k1 ?k2 ?k3 ?k4 ?k5 ?k6 ?k7 ?k8 ?k9 ?_; (case k1 => k_asm); (case k2 => k_asm); (case k3 => k_asm); (case k4 => assumption); (case k5 => assumption); (case k6 => first | exact gf_what | exact gf_att); (case k7 => first | rfl | decide +kernel); (case k8 => first | rfl | with_unfolding_all rfl); (case k9 => first | decide | exact Nat.le_of_ble_eq_true rfl); k_whole); intro h0 n0 F0 N0 hd0 hk0))))
  trivial
set_option maxHeartbeats 8000000 in
theorem fault_does (w : World) (r : Addr) (news : Led) (tds : List (PySem.Str × PySem.Str)) (p : Nat) (what : PySem.Str) (t : Nat) (hR : RS news r tds p) (hp : p < tds.length) :
    Does w 379 [.ref r, .str what t] 120 1200 news (fun v news' => (∃ e, v = .ref e ∧ (∀ q ∈ news, q.1 ≠ e) ∧ FaultAt news' e p) ∧ RS news' r tds p ∧ Keep news news') (fun _ _ => False) := by
  have hR0 := hR
  obtain ⟨rd, tl, toks, e, t', nv, n, ln, h1, h2, h3, hl, hz, ht⟩ := hR0
  unfold Does
  k_fill
  intro _ dp un gd cn cs a ccd cl outer A₀ base h₀ L m mg mb mean s Q E B F X N T hk hd hu hret herr
  have hb : Binds w ob379 [.ref r, .str what t] [("self", .ref r), ("what", .str what t)] := .plain rfl
  refine wpAny_call ?_
  k_dflt ktr_enter
  k_steps
  rename toks[_]? = some _ => hI
  obtain ⟨x, hx, hT⟩ := ht p tds[p] (List.getElem?_eq_getElem hp)
  obtain rfl := val_of (hI.symm.trans (by congr 1; omega)).symm hx
  obtain ⟨dx, ta, u1, u2, tn, e', t'', n', a1, a2, a3⟩ := hT
  k_steps
  rename News _ _ _ _ => N9
  refine gf_call (by k_asm) (by k_asm) N9 (by show 2 ≤ sizeLine; rw [sizeLine_eq]; decide) ?_
  intro x' a' h' F' N' l1 l2
  have hb : Binds w ob87 [.ref x', .str what t, .ref ta] [("self", .ref x'), ("what", .str what t), ("at", .ref ta)] := .dflt 80 rfl rfl rfl rfl rfl
  k_dflt ktr_enter
  k_steps
  have new : ∀ q ∈ news, q.1 ≠ x' := fun q hq => Nat.ne_of_lt (Nat.lt_trans (l1 q hq) l2)
  have up : ∀ q ∈ news, q ∈ n0 := fun q hq => hk0 q (hk1 q (hk2 q (.tail _ (.tail _ hq)) (new q hq)) (new q hq)) (Nat.ne_of_lt (hl1 q (hk2 q (.tail _ (.tail _ hq)) (new q hq))))
  exact hret _ _ _ _ (by k_asm) (by k_asm) ⟨⟨_, rfl, new, dx2, D2, ta, _, _, _, _, what, t, _, u1, u2, tn, hk0 _ hm1 (Nat.ne_of_lt (hl1 (x', exI D2) hm2)), hd0, up _ a3⟩, RS.sub hR up, fun q hq _ => up q hq⟩
end Mine
theorem off_Ex3g : True := by
  (k_with "off_Ex3g" => skip)
  trivial
end

section
open PySem PySem.W PyProof.Rows PySem.Calls PySem.Spec
set_option maxRecDepth 100000
namespace Mine
def FaultIn (news : Led) (dx : Addr) (i : Nat) : Prop := ∃ ta k1 k2 t1 t2 what t n u1 u2 tn, (dx, exDict k1 k2 t1 t2 what t ta n) ∈ news ∧ (ta, tupO [.int 3 u1, .int ((i : Int) + 1) u2] tn) ∈ news
def RaisedD (base G : Heap) (l : List Env) (e : Addr) (i : Nat) (news : Led) (h : Heap) : Prop :=
  ∃ B dx, base.StaysIn B ∧ (∀ b o, G.get? b = some o → b ∉ l.filterMap (·.frame) → B.get? b = some o) ∧ (∀ q ∈ news, B.get? q.1 = some q.2 ∧ G.get? q.1 = none ∧ base.get? q.1 = none) ∧ Fl B l e dx .none h ∧ FaultIn news dx i ∧ G.UpToSlots h
theorem mem_frames {env : Env} {outer : List Env} {L b : Addr} (hf : env.frame = some L) (hm : b ∈ (env :: outer).filterMap (·.frame)) : b = L ∨ b ∈ outer.filterMap (·.frame) := by
  rw [List.filterMap_cons, hf] at hm
  exact List.mem_cons.mp hm
theorem Fl.pop {B : Heap} {env : Env} {outer : List Env} {e dx : Addr} {fl : Value} {h : Heap} (R : Fl B (env :: outer) e dx fl h) : Fl B outer e dx fl h := ⟨R.stays, R.enew, R.frames.2.2, R.tr⟩
section
variable {M : Model} {A A' : Around} {E : Value → Shared → Prop} {s : Shared} {base g g₂ : Heap} {env : Env} {outer : List Env} {L e dx ar : Addr} {m : PySem.Str → Option Value} {news : Led} {i : Nat} {Q : Unit → Shared → Prop}
theorem stack_frames (hf : env.frame = some L) (hke : env.scope.kind ≠ .module) (K : Below A base outer g) (F : Fr g L s.heap m) : s.heap.FunFrames base (env :: outer) := by
  obtain ⟨o, es, ep, hL, hd, _⟩ := F.ns
  refine ⟨hke, ⟨L, o, hf, ?_, hL, fun vs q => by rw [hd] at q; cases q⟩, K.frames.of_keeps fun b o e _ => ⟨o, F.keep b o e, rfl⟩⟩
  cases q : base.get? L with
  | none => rfl
  | some o => exact absurd (Nat.lt_of_lt_of_le (Heap.lt_size (K.stays L o q)) F.above) (Nat.lt_irrefl _)
theorem leave_first (hfr : A'.frames = some (env :: outer)) (hf : env.frame = some L) (hke : env.scope.kind ≠ .module) (K : Below A base outer g) (F : Fr g L s.heap m) (N : News g L s.heap news) (hF : FaultAt news e i)
    (h : ∀ h' news', (∀ q ∈ news, q.1 ≠ e → q ∈ news') → RaisedD base g outer e i news' h' → Q () { s with heap := h' }) : wpAny M A' (leaving env (.ref e)) Q E s := by
  obtain ⟨dx, ar, ta, k1, k2, t1, t2, what, t, n, u1, u2, tn, he, hdx, hta⟩ := hF
  have FF := stack_frames hf hke K F
  have ge : g.get? e = none := (N _ he).2.2
  have be : base.get? e = none := fresh_of_stays K.stays ge
  have hin : ∀ x ∈ (env :: outer), ∀ b, x.frame = some b → b ∈ e :: (env :: outer).filterMap (·.frame) := fun x hx b hb => .tail _ (List.mem_filterMap.mpr ⟨x, hx, hb⟩)
  have hB : base.StaysIn (hideAll s.heap (e :: (env :: outer).filterMap (·.frame))) := by
    intro b o q
    refine hideAll_get _ (F.keep _ _ (K.stays b o q)) fun hm => ?_
    rcases List.mem_cons.mp hm with z | hm
    · rw [z, be] at q; cases q
    · rw [(FF.mem hm).1] at q; cases q
  have hG : ∀ b o, g.get? b = some o → b ∉ outer.filterMap (·.frame) → (hideAll s.heap (e :: (env :: outer).filterMap (·.frame))).get? b = some o := by
    intro b o q nm
    refine hideAll_get _ (F.keep _ _ q) fun hm => ?_
    rcases List.mem_cons.mp hm with z | hm
    · rw [z, ge] at q; cases q
    · rcases mem_frames hf hm with z | hm
      · rw [z, kts_self F] at q; cases q
      · exact nm hm
  have hN : ∀ q ∈ news, q.1 ≠ e → (hideAll s.heap (e :: (env :: outer).filterMap (·.frame))).get? q.1 = some q.2 ∧ g.get? q.1 = none ∧ base.get? q.1 = none := by
    intro q hq ne
    refine ⟨hideAll_get _ (N q hq).1 fun hm => ?_, (N q hq).2.2, fresh_of_stays K.stays (N q hq).2.2⟩
    rcases List.mem_cons.mp hm with z | hm
    · exact ne z
    · rcases mem_frames hf hm with z | hm
      · exact (N q hq).2.1 z
      · obtain ⟨_, o, ho, _⟩ := K.frames.mem hm
        rw [(N q hq).2.2] at ho; cases ho
  have ne1 : dx ≠ e := by
    rintro rfl
    have := Option.some.inj ((N _ he).1.symm.trans (N _ hdx).1)
    exact nomatch congrArg Obj.cls this
  have ne2 : ta ≠ e := by
    rintro rfl
    have := Option.some.inj ((N _ he).1.symm.trans (N _ hta).1)
    exact nomatch congrArg Obj.cls this
  have mm : ∀ q ∈ news, q.1 ≠ e → q ∈ news.filter (fun q => q.1 != e) := fun q hq ne => List.mem_filter.mpr ⟨hq, by simpa using ne⟩
  unfold leaving
  refine wpAny_bind (note_first hfr (funFrames_hide FF hin) hf (N _ he).1 ⟨rfl, rfl⟩ rfl rfl (fun b o q => of_hideAll _ q) (hideAll_none _ (.head _)) fun h₁ R₁ u₁ => ?_)
  refine fl_clear R₁ fun h₂ R₂ u₂ => h _ _ mm ⟨_, dx, hB, hG, ?_, R₂.pop, ⟨ta, k1, k2, t1, t2, what, t, n, u1, u2, tn, mm _ hdx ne1, mm _ hta ne2⟩, ((Heap.UpToSlots.of_keeps F.keep).trans u₁).trans u₂⟩
  intro q hq
  have := List.mem_filter.mp hq
  exact hN q this.1 (by simpa using this.2)
theorem leave_next (hfr : A'.frames = some (env :: outer)) (hf : env.frame = some L) (K : Below A base outer g) (F : Fr g L g₂ m) (R : RaisedD base g₂ (env :: outer) e i news s.heap)
    (h : ∀ h', RaisedD base g outer e i news h' → Q () { s with heap := h' }) : wpAny M A' (leaving env (.ref e)) Q E s := by
  obtain ⟨B, dx, hB, hG, hN, R, hF, u⟩ := R
  unfold leaving
  refine wpAny_bind (note_next R hfr hf fun h₁ R₁ u₁ => ?_)
  refine fl_clear R₁ fun h₂ R₂ u₂ => h _ ⟨B, dx, hB, fun b o q nm => hG b o (F.keep _ _ q) fun hm => ?_, fun q hq => ⟨(hN q hq).1, kts_none F.keep (hN q hq).2.1, (hN q hq).2.2⟩, R₂.pop, hF, (((Heap.UpToSlots.of_keeps F.keep).trans u).trans u₁).trans u₂⟩
  rcases mem_frames hf hm with z | hm
  · rw [z, kts_self F] at q; cases q
  · exact nm hm
end
def Raises (w : World) (f : Addr) (vs : List Value) (d u : Nat) (news : Led) (i : Nat) : Prop :=
  ∀ (_ : rw1 = rw1) (dp un : Nat) (gd : Option (List Code)) (cn : PySem.Str) (cs : Scope) (a : Addr) (ccd : Value) (cl : List (PySem.Str × Addr)) (outer : List Env) (A₀ : Around) (base h₀ : Heap) (L : Addr) (m mg mb : PySem.Str → Option Value) (mean : ExcName → Option Value) (s : Shared) (Q E : Value → Shared → Prop),
    Below A₀ base outer h₀ → Fr h₀ L s.heap m → (KK w.params).In h₀ → News h₀ L s.heap news → Top qv (looseW qv looseV) mean mg mb h₀ → cs.kind = .function → dp + d < recursionLimit → un + u < cLine →
    (∀ e G news' h' tk', Fr h₀ L G m → Keep news news' → RaisedD base G (envX cn cs L a ccd cl :: outer) e i news' h' → E (.ref e) { s with heap := h', toks := tk' }) →
    wpAny (model pw w) (ktrTop dp un gd cn cs L a ccd cl outer) (call (.ref f) vs) Q E s
theorem Raises.use {w : World} {f : Addr} {vs : List Value} {d u : Nat} {news : Led} {i : Nat} (H : Raises w f vs d u news i)
    {dp un : Nat} {gd : Option (List Code)} {cn : PySem.Str} {cs : Scope} {a : Addr} {ccd : Value} {cl : List (PySem.Str × Addr)} {outer : List Env} {A₀ : Around} {base h₀ : Heap} {L : Addr} {m mg mb : PySem.Str → Option Value} {mean : ExcName → Option Value} {s : Shared} {Q E : Value → Shared → Prop}
    (B : Below A₀ base outer h₀) (F : Fr h₀ L s.heap m) (X : (KK w.params).In h₀) (N : News h₀ L s.heap news) (T : Top qv (looseW qv looseV) mean mg mb h₀) (hk : cs.kind = .function) (hd : dp + d < recursionLimit) (hu : un + u < cLine)
    (herr : ∀ e G news' h' tk', Fr h₀ L G m → Keep news news' → RaisedD base G (envX cn cs L a ccd cl :: outer) e i news' h' → E (.ref e) { s with heap := h', toks := tk' }) :
    wpAny (model pw w) (ktrTop dp un gd cn cs L a ccd cl outer) (call (.ref f) vs) Q E s := H rfl dp un gd cn cs a ccd cl outer A₀ base h₀ L m mg mb mean s Q E B F X N T hk hd hu herr
theorem raise_val {w : World} {A : Around} {E : Value → Shared → Prop} {s : Shared} {env : Env} {x : Expr} {pos : Pos} {Q : Flow → Shared → Prop} (hh : A.handled = none)
    (h : wpAny (model pw w) A (eval x env) (fun v s₁ => ∃ e dx ar, v = .ref e ∧ (KK w.params).In s₁.heap ∧ s₁.heap.get? e = some (exObj dx ar) ∧ E (.ref e) s₁) E s) :
    wpAny (model pw w) A (exec (.Raise (some x) none pos) env) Q E s := by
  have key : wpAny (model pw w) A (raiseStmt env (some (do let v ← eval x env; standAt pos; pure v)) none) Q E s := by
    unfold raiseStmt
    refine wpAny_bind (wpAny_bind (wpAny_mono h (fun v s₁ h₁ => wpAny_bind (wpAny_standAt (wpAny_pure ?_))) fun _ _ x => x))
    obtain ⟨e, dx, ar, rfl, X, he, hE⟩ := h₁
    have hC : s₁.heap.get? 122 = some (ob122 w.params) := X _ _ rfl
    obtain ⟨hp, g, d, tk, os⟩ := s₁
    have hC' : hp.get? 122 = some (excClassObj "GrammarFault" "GrammarFault" 122 121 [.ref 97] [.ref 97, .type "Exception", .type "BaseException", .type "object"] true [] [] false none none (some (.ref 113)) none (some (.str "GrammarFault" 354)) (some (.str "GrammarFault" 362)) (some (.bool true)) "Exception.__new__") := hC
    have hcB : ([Value.ref 122, .ref 97, .type "Exception", .type "BaseException", .type "object"] : List Value).contains (.type "BaseException") = true := by decide
    repeat (first | with_reducible refine wpAny_loadPart_at he ?_ | with_reducible refine wpAny_loadPart_at hC' ?_ | (with_reducible refine wpAny_isSubtype_exc hC' ?_; rw [hcB]) | wp_step)
    exact wpAny_raiseNew_none hh hE
  rw [arm_exec_Raise]
  first
    | exact wpAny_bind (wpAny_standAt key)
    | (simp only [evalOpt, Option.map]; exact wpAny_bind (wpAny_standAt key))
    | (show wpAny _ A (do standAt pos; raiseStmt env (some (do let v ← eval x env; standAt pos; pure v)) none) Q E s; exact wpAny_bind (wpAny_standAt key))
end Mine
end

section
open PySem PySem.W PyProof.Rows PySem.Calls PySem.Spec
set_option maxRecDepth 100000
namespace Mine
abbrev gotObj (dx : Addr) (vs : Array Value) (sl : Array (Option Value)) : Obj := ⟨.ref 122, some dx, .fields vs, sl⟩
theorem caughtD {prog : Program} {w : World} {A₀ : Around} {E : Value → Shared → Prop} {s' : Shared} {base g g₀ G : Heap} {outer : List Env} {L a e : Addr} {m : PySem.Str → Option Value} {name : PySem.Str} {scope : Scope} {cd : Value} {i : Nat}
    {n : PySem.Str} {b₀ : Stmt} {suite : List Stmt} {pos np : Pos} {rest : List ExceptHandler} {Q : Flow → Shared → Prop} {news : Led} {KF : Frag} {p : Program} {loose : List PySem.Str} {mean : ExcName → Option Value} {mg mb : PySem.Str → Option Value} {x : PySem.Str}
    (R : RaisedD base G (envOf name scope L a cd :: outer) e i news s'.heap) (F : Fr g L G m) (K : Below A₀ base outer g) (XB : KF.In base) (TB : Top p loose mean mg mb base)
    (D : KtsDicts (outer.filterMap (·.frame)) g) (T0 : KtsTurn (outer.filterMap (·.frame)) g₀ g) (ex : nsIn KF mainGlobals x = some (some (.ref 122))) (q : ktsIn KF 122 "BaseException" = true)
    (k : ∀ h' g' tk dx vs sl, KtsTurn (outer.filterMap (·.frame)) g₀ g' → Fr g' L h' (fun y => if y = n then some (.ref e) else m y) → News g' L h' ((e, gotObj dx vs sl) :: news) → FaultIn news dx i → Below A₀ base outer g' → KF.In g' → Top p loose mean mg mb g' → KtsDicts (outer.filterMap (·.frame)) g' →
      wpAny (model prog w) ((A₀.deeper (envOf name scope L a cd)).mark (some (.ref e))) (execs (b₀ :: suite) (envOf name scope L a cd))
        (fun f s₄ => wpAny (model prog w) (A₀.deeper (envOf name scope L a cd)) (do bindName (envOf name scope L a cd) n .none; unbindBehindTheSuite (envOf name scope L a cd) n pos) (fun _ s₅ => Q f s₅) E s₄)
        (AsSuiteRaised (model prog w) ((A₀.deeper (envOf name scope L a cd)).mark (some (.ref e))) (envOf name scope L a cd) n pos (notedBy (model prog w) ((A₀.deeper (envOf name scope L a cd)).mark (some (.ref e))) (envOf name scope L a cd) (cameBackBy (model prog w) (A₀.deeper (envOf name scope L a cd)) (envOf name scope L a cd) E)))
        { s' with heap := h', toks := tk })
    (hk : scope.kind = .function := by rfl) (hlo : (envOf name scope L a cd).kindOf n = some .local := by rfl) (hx : (envOf name scope L a cd).kindOf x = some .globalImplicit := by rfl) (hd : (x == ("__debug__" : PySem.Str)) = false := by decide) :
    wpAny (model prog w) (A₀.deeper (envOf name scope L a cd)) (noteFrame (.ref e) (envOf name scope L a cd))
      (fun _ s₂ => wpAny (model prog w) (A₀.deeper (envOf name scope L a cd)) (setFlight (.ref e) none) (fun _ s₃ =>
        wpAny (model prog w) (A₀.deeper (envOf name scope L a cd)) (handleBy (.ref e) (envOf name scope L a cd) (.ExceptHandler (some (.Name x np)) (some n) (b₀ :: suite) pos :: rest)) Q E s₃) E s₂) E s' := by
  refine' (let G9 : Prop := _; (?_ : G9))
  obtain ⟨B, dx, hB, hG, hN, R, hF, u⟩ := R
  show wpAny _ _ _ _ _ _
  clear G9
  have hL : B.get? L = none := by
    obtain ⟨_, ⟨L', _, hf, hn', _⟩, _⟩ := R.frames
    obtain rfl : L = L' := Option.some.inj hf
    exact hn'
  refine note_next R (Around.frames_deeper K.stack) rfl fun h₁ R₁ u₁ => ?_
  refine fl_clear R₁ fun h₂ R₂ u₂ => ?_
  refine' (let G9 : Prop := _; (?_ : G9))
  obtain ⟨g₂, T₂, F₂, K₂⟩ := kts_ground K F hG R₂.stays ((u.trans u₁).trans u₂)
  have X₂ : KF.In g₂ := XB.keeps K₂.stays
  have P₂ : TopRead p loose mg mb g₂ := topRead_of (TB.keeps K₂.stays)
  obtain ⟨oe, _, _, _, _, he, hc, _⟩ := R₂.tr
  obtain ⟨nm, q', N, bs, bm, hdct, sn, sub, ab, col, dd, k0, k1, k2, k3, k5, newId, hC, hbase, hbT⟩ := kts_cls X₂ q
  show wpAny _ _ _ _ _ _
  clear G9
  refine wpAny_handleBy_cons (codeAny_handlers_test (name_K F₂ X₂ P₂ ex ?_ hk hx hd)) (by intro z; cases z)
  refine wpAny_excMatches_sub_self (F₂.keep _ _ hC) he hc.1 hbase (codeAny_handlers_suite_as ?_)
  refine fl_clear R₂ fun h₃ R₃ u₃ => ?_
  refine' (let G9 : Prop := _; (?_ : G9))
  have v : G.UpToSlots h₃ := ((u.trans u₁).trans u₂).trans u₃
  obtain ⟨g₃, T₃, F₃, K₃⟩ := kts_ground K F hG R₃.stays v
  obtain ⟨oe, vs, _, _, _, he, hc, hd', _⟩ := R₃.tr
  obtain ⟨c, d, dt, sl⟩ := oe
  obtain ⟨rfl, rfl⟩ := hc
  dsimp only at hd'
  subst hd'
  have ne : g₃.get? e = none := T₃.none_ _ (kts_fresh F hG R₃.enew fun o ho hm => by
    obtain ⟨_, o', ho', hn⟩ := K.frames.mem hm
    obtain rfl := Option.some.inj (ho'.symm.trans ho)
    obtain ⟨ws, hw⟩ := v _ _ (F.keep _ _ ho) hn
    have := congrArg Obj.data (Option.some.inj (he.symm.trans hw))
    exact hn vs this.symm)
  have neL : e ≠ L := by
    rintro rfl
    obtain ⟨o, es, ep, ho, hod, _⟩ := F₃.ns
    obtain rfl := Option.some.inj (he.symm.trans ho)
    cases hod
  have Nl : News g₃ L h₃ ((e, gotObj dx vs sl) :: news) := by
    intro z hz
    rcases List.mem_cons.mp hz with rfl | hz
    · exact ⟨he, neL, ne⟩
    · refine ⟨R₃.stays _ _ (hN z hz).1, fun y => ?_, T₃.none_ _ (kts_none F.keep (hN z hz).2.1)⟩
      have := (hN z hz).1
      rw [y, hL] at this
      cases this
  show wpAny _ _ _ _ _ _
  clear G9
  refine stN F₃ Nl (fun h₄ F₄ N₄ => ?_) hk hlo
  exact k h₄ g₃ _ dx vs sl (T0.trans T₃) F₄ N₄ hF K₃ (XB.keeps K₃.stays) (TB.keeps K₃.stays) (D.turn T₃)
end Mine
end

section
open PySem PySem.W PyProof.Rows
set_option maxRecDepth 100000
namespace Mine
theorem reg_Dc_0 : True := by
  (k_with "nt on" => ((fail_if_success walk_at "off_Dc"); (skip)))
  trivial
def PInt (k : Int) (v : Value) (_ : Led) : Prop := ∃ t, v = .int k t
def PPair (i j : Int) (v : Value) (nw : Led) : Prop := ∃ a t1 t2, v = .ref a ∧ (a, tupO [.int i t1, .int j t2] 0) ∈ nw
set_option maxHeartbeats 8000000 in
theorem dec_0 (w : World) (i : Int) (t u : Nat) (news : Led) : Does w 139 [.int i t, .int 0 u] 100 900 news (fun v news' => PPair i 0 v news' ∧ ∀ q ∈ news, q ∈ news') (fun _ _ => False) := by
  unfold Does
  k_fill
  intro _ dp un gd cn cs a ccd cl outer A₀ base h₀ L m mg mb mean s Q E B F X N T hk hd hu hret herr
  have hb : Binds w ob139 [.int i t, .int 0 u] [("units", .int i t), ("scale", .int 0 u)] := .dflt (nat_lit 132) rfl rfl rfl rfl rfl
  refine wpAny_call ?_
  k_dflt ktr_enter
  k_steps
  · refine hret _ _ _ _ (by k_asm) (by k_asm) ⟨⟨_, _, _, rfl, by k_mem⟩, fun q hq => ?_⟩
    (repeat (first | exact hq | refine List.mem_cons_of_mem _ ?_))
theorem dec_7 (w : World) (i j : Int) (t u : Nat) (news : Led) (hi : i = 7) (hj : j = 0) : Does w 139 [.int i t, .int j u] 100 900 news (fun v news' => PPair 7 0 v news' ∧ ∀ q ∈ news, q ∈ news') (fun _ _ => False) := by subst hi hj; exact dec_0 w 7 t u news
theorem dec_2 (w : World) (i j : Int) (t u : Nat) (news : Led) (hi : i = 2) (hj : j = 0) : Does w 139 [.int i t, .int j u] 100 900 news (fun v news' => PPair 2 0 v news' ∧ ∀ q ∈ news, q ∈ news') (fun _ _ => False) := by subst hi hj; exact dec_0 w 2 t u news
theorem allLt_at' {d : Addr} : ∀ {l : Led}, AllLt d l → ∀ p ∈ l, p.1 < d
  | [], _, _, h => nomatch h
  | _ :: _, x, p, h => by
    rcases List.mem_cons.mp h with rfl | h
    · exact x.1
    · exact allLt_at' x.2 p h
theorem unrEnd_q {h₀ : Heap} {L I : Addr} {it : Obj} {rest : (PySem.Str → Option Value) → Led → Prop} {s₁ : Shared} {h' : Heap} {tk : Nat} {m' : PySem.Str → Option Value} {news' : Led} (F : Fr h₀ L h' m') (N : News h₀ L h' ((I, it) :: news'))
    (l1 : ∀ p ∈ news', p.1 < I) (r : rest m' news') : UnrEnd h₀ L s₁ I it rest { s₁ with heap := h', toks := tk } := UnrEnd.intro F N news' (fun _ h => h) (fun p h => Nat.ne_of_lt (l1 p h)) r
theorem reg_Dc_1 : True := by
  (k_with "pyIter str" => ((fail_if_success walk_at "off_Dc"); (k_here; (rename Fr _ _ _ _ => lF'); (rename News _ _ _ _ => lN'); k_dflt (first | (with_unfolding_all refine iter_strUnr (l := [("7" : PySem.Str)]) (by rfl) lF' lN' (by decide +kernel) ?_) | (with_unfolding_all refine iter_strUnr (l := [("2" : PySem.Str)]) (by rfl) lF' lN' (by decide +kernel) ?_)); clear lF' lN'; intro i' l1)))
  (k_with "UnrEnd" => ((fail_if_success walk_at "off_Dc"); ((rename News _ _ _ _ => lN'); k_dflt (refine unrEnd_q (by assumption) lN' (by assumption) ?_))))
  trivial
set_option maxHeartbeats 8000000 in
theorem worth_7 (w : World) (x : PySem.Str) (t : Nat) (news : Led) (hx : x = "7") : Does w 174 [.str x t] 100 900 news (fun v news' => PInt 7 v news' ∧ ∀ q ∈ news, q ∈ news') (fun _ _ => False) := by
  subst hx
  unfold Does
  k_fill
  intro _ dp un gd cn cs a ccd cl outer A₀ base h₀ L m mg mb mean s Q E B F X N T hk hd hu hret herr
  have hb : Binds w ob174 [.str "7" t] [("figures", .str "7" t)] := .plain rfl
  refine wpAny_call ?_
  k_dflt ktr_enter
  k_steps
  · (rename (Txt.find _ _ = _) => hAbs; exact absurd hAbs (by decide +kernel))
  · refine hret _ _ _ _ (by k_asm) (by k_asm) ⟨⟨_, congrArg (fun z => Value.int z _) (by decide +kernel)⟩, fun q hq => ?_⟩
    (repeat (first | exact hq | refine List.mem_cons_of_mem _ ?_))
set_option maxHeartbeats 8000000 in
theorem worth_2 (w : World) (x : PySem.Str) (t : Nat) (news : Led) (hx : x = "2") : Does w 174 [.str x t] 100 900 news (fun v news' => PInt 2 v news' ∧ ∀ q ∈ news, q ∈ news') (fun _ _ => False) := by
  subst hx
  unfold Does
  k_fill
  intro _ dp un gd cn cs a ccd cl outer A₀ base h₀ L m mg mb mean s Q E B F X N T hk hd hu hret herr
  have hb : Binds w ob174 [.str "2" t] [("figures", .str "2" t)] := .plain rfl
  refine wpAny_call ?_
  k_dflt ktr_enter
  k_steps
  · (rename (Txt.find _ _ = _) => hAbs; exact absurd hAbs (by decide +kernel))
  · refine hret _ _ _ _ (by k_asm) (by k_asm) ⟨⟨_, congrArg (fun z => Value.int z _) (by decide +kernel)⟩, fun q hq => ?_⟩
    (repeat (first | exact hq | refine List.mem_cons_of_mem _ ?_))
end Mine
theorem off_Dc : True := by
  (k_with "off_Dc" => skip)
  trivial
end

section
open PySem PySem.W PyProof.Rows
set_option maxRecDepth 100000
namespace Mine
theorem reg_Nm1_0 : True := by
  (k_with "does" => ((fail_if_success walk_at "off_Nm1"); first | with_reducible exact worth_7 _ _ _ _ (by decide +kernel) | with_reducible exact worth_2 _ _ _ _ (by decide +kernel)))
  (k_with "does" => ((fail_if_success walk_at "off_Nm1"); first | with_reducible exact dec_7 _ _ _ _ _ _ (by decide +kernel) (by decide +kernel) | with_reducible exact dec_2 _ _ _ _ _ _ (by decide +kernel) (by decide +kernel)))
  (k_with "got more" => (intro hv'; obtain ⟨hp', hs'⟩ := hv'; (first | (obtain ⟨t', hv'⟩ := hp'; subst hv') | (obtain ⟨a', t1', t2', hv', hm'⟩ := hp'; subst hv')); (try (have hR' := RS.sub (by walk_at "RS") hs'))))
  trivial
theorem ite_yes {c : Prop} [Decidable c] {P Q : Prop} (h : c) (p : P) : if c then P else Q := by rw [if_pos h]; exact p
theorem ite_no {c : Prop} [Decidable c] {P Q : Prop} (h : ¬ c) (p : Q) : if c then P else Q := by rw [if_neg h]; exact p
theorem allLt_at {d : Addr} : ∀ {l : Led}, AllLt d l → ∀ p ∈ l, p.1 < d
  | [], _, _, h => nomatch h
  | _ :: _, x, p, h => by
    rcases List.mem_cons.mp h with rfl | h
    · exact x.1
    · exact allLt_at x.2 p h
theorem unrEnd_r {h₀ : Heap} {L I : Addr} {it : Obj} {rest : (PySem.Str → Option Value) → Led → Prop} {s₁ : Shared} {h' : Heap} {tk : Nat} {m' : PySem.Str → Option Value} {news' : Led} (F : Fr h₀ L h' m') (N : News h₀ L h' ((I, it) :: news'))
    (l1 : AllLt I news') (r : rest m' news') : UnrEnd h₀ L s₁ I it rest { s₁ with heap := h', toks := tk } := UnrEnd.intro F N news' (fun _ h => h) (fun p h => Nat.ne_of_lt (allLt_at l1 p h)) r
theorem len7 : ((1 : Nat) : Int) = 1 := rfl
theorem reg_Nm1_1 : True := by
  (k_with "call type:range" => ((fail_if_success walk_at "off_Nm1"); (simp only [len7]; walk_at "call type:range")))
  (k_with "UnrEnd" => ((fail_if_success walk_at "off_Nm1"); ((rename News _ _ _ _ => lN'); k_dflt (refine unrEnd_r (by assumption) lN' (by first | assumption | (simp only [AllLt, and_true]; assumption)) ?_))))
  (k_with "ite" => ((fail_if_success walk_at "off_Nm1"); (k_here; first | refine ite_yes (by decide +kernel) ?_ | refine ite_no (by decide +kernel) ?_)))
  trivial
set_option maxHeartbeats 8000000 in
theorem read_decimal_7 (w : World) (news : Led) (t : Nat) :
    Does w 181 [.str "7" t] 120 1200 news (fun v news' => PPair 7 0 v news' ∧ ∀ q ∈ news, q ∈ news') (fun _ _ => False) := by
  unfold Does
  k_fill
  intro _ dp un gd cn cs a ccd cl outer A₀ base h₀ L m mg mb mean s Q E B F X N T hk hd hu hret herr
  have hb : Binds w ob181 [.str "7" t] [("text", .str "7" t)] := .plain rfl
  refine wpAny_call ?_
  k_dflt ktr_enter
  k_steps
  · (rename (_ < _ ∨ _ ≤ _) => hAbs; exact absurd hAbs (by decide +kernel))
  · refine hret _ _ _ _ (by k_asm) (by k_asm) ⟨⟨_, _, _, rfl, by assumption⟩, fun q hq => ?_⟩
    (repeat (first | exact List.mem_cons_of_mem _ (List.mem_cons_of_mem _ hq) | (rename ∀ q ∈ _, q ∈ _ => hs9; refine hs9 _ ?_; clear hs9)))
set_option maxHeartbeats 8000000 in
theorem read_decimal_2 (w : World) (news : Led) (t : Nat) :
    Does w 181 [.str "2" t] 120 1200 news (fun v news' => PPair 2 0 v news' ∧ ∀ q ∈ news, q ∈ news') (fun _ _ => False) := by
  unfold Does
  k_fill
  intro _ dp un gd cn cs a ccd cl outer A₀ base h₀ L m mg mb mean s Q E B F X N T hk hd hu hret herr
  have hb : Binds w ob181 [.str "2" t] [("text", .str "2" t)] := .plain rfl
  refine wpAny_call ?_
  k_dflt ktr_enter
  k_steps
  · (rename (_ < _ ∨ _ ≤ _) => hAbs; exact absurd hAbs (by decide +kernel))
  · refine hret _ _ _ _ (by k_asm) (by k_asm) ⟨⟨_, _, _, rfl, by assumption⟩, fun q hq => ?_⟩
    (repeat (first | exact List.mem_cons_of_mem _ (List.mem_cons_of_mem _ hq) | (rename ∀ q ∈ _, q ∈ _ => hs9; refine hs9 _ ?_; clear hs9)))
end Mine
theorem off_Nm1 : True := by
  (k_with "off_Nm1" => skip)
  trivial
end

section
open PySem PySem.W PyProof.Rows
set_option maxRecDepth 100000
namespace Mine
theorem sub_at {a b : Led} (h : ∀ q ∈ a, q ∈ b) {q : Addr × Obj} (hq : q ∈ a) : q ∈ b := h q hq
theorem keep_at {a b : Led} (h : Keep a b) {q : Addr × Obj} (hi : isRd q.2 = false) (hq : q ∈ a) : q ∈ b := h q hq hi
mutual
theorem DatIn.keep {a b : Led} (k : Keep a b) : ∀ {v : Value} {d : Dat}, DatIn a v d → DatIn b v d
  | _, _, .none => .none
  | _, _, .bool x => .bool x
  | _, _, .int i t => .int i t
  | _, _, .str x t => .str x t
  | _, _, .bytes x t => .bytes x t
  | _, _, .tuple hm r => .tuple (k _ hm rfl) (DatAll.keep k r)
  | _, _, .list hm r => .list (k _ hm rfl) (DatAll.keep k r)
theorem DatAll.keep {a b : Led} (k : Keep a b) : ∀ {vs : List Value} {ds : List Dat}, DatAll a vs ds → DatAll b vs ds
  | _, _, .nil => .nil
  | _, _, .cons h r => .cons (DatIn.keep k h) (DatAll.keep k r)
end
theorem Keep.of_sub {a b : Led} (h : ∀ q ∈ a, q ∈ b) : Keep a b := fun q hq _ => h q hq
end Mine
end

section
open PySem PySem.W PyProof.Rows
set_option maxRecDepth 100000
namespace Mine
theorem reg_Nm2_0 : True := by
  (k_with "nt on" => ((fail_if_success walk_at "off_Nm2"); (skip)))
  (k_with "k_mem" => ((fail_if_success walk_at "off_Nm2"); first | ((show _ ∈ _); ktr_member) | exact List.Mem.head _ | (refine' List.mem_cons_of_mem _ ?_; k_mem) | (refine sub_at (by assumption) ?_; k_mem) | (refine keep_at (by assumption) (by first | rfl | decide +kernel) ?_; k_mem)))
  (k_with "Keep" => ((fail_if_success walk_at "off_Nm2"); (intro q9 hq9 hi9; repeat (first | exact hq9 | refine sub_at (by assumption) ?_ | refine keep_at (by assumption) hi9 ?_ | refine List.mem_cons_of_mem _ ?_))))
  (k_with "does" => first | with_reducible exact is_number_does _ _ _ _ _ (by walk_at "RS"))
  (k_with "does" => first | with_reducible exact skip_sign_does _ _ _ _ _ _ _ (by walk_at "RS"))
  (k_with "does" => first | with_reducible exact take_does _ _ _ _ _ _ (by walk_at "RS") (by assumption))
  (k_with "does" => ((fail_if_success walk_at "off_Nm2"); first | with_reducible exact read_decimal_7 _ _ _ | with_reducible exact read_decimal_2 _ _ _))
  trivial
set_option maxHeartbeats 8000000 in
theorem signed_7 (w : World) (r : Addr) (news : Led) (tds : List (PySem.Str × PySem.Str)) (p : Nat) (hR : RS news r tds p) (ht : tds[p]? = some (("number" : PySem.Str), ("7" : PySem.Str))) (hn : isNum tds p = true) (h1s : tokIs tds p "sign" "-" = false) (h2s : tokIs tds p "sign" "+" = false) :
    Does w 487 [.ref r] 130 1300 news (fun v news' => PPair 7 0 v news' ∧ RS news' r tds (p + 1) ∧ Keep news news') (fun _ _ => False) := by
  refine RS.elim hR fun rd tl e t nv n h1 h2 => ?_
  unfold Does
  k_fill
  intro _ dp un gd cn cs a ccd cl outer A₀ base h₀ L m mg mb mean s Q E B F X N T hk hd hu hret herr
  have hb : Binds w ob487 [.ref r] [("self", .ref r)] := .plain rfl
  refine wpAny_call ?_
  k_dflt ktr_enter
  k_steps
  exact hret _ _ _ _ (by k_asm) (by k_asm) ⟨⟨_, _, _, rfl, by assumption⟩, by walk_at "RS", by walk_at "Keep"⟩
set_option maxHeartbeats 8000000 in
theorem signed_2 (w : World) (r : Addr) (news : Led) (tds : List (PySem.Str × PySem.Str)) (p : Nat) (hR : RS news r tds p) (ht : tds[p]? = some (("number" : PySem.Str), ("2" : PySem.Str))) (hn : isNum tds p = true) (h1s : tokIs tds p "sign" "-" = false) (h2s : tokIs tds p "sign" "+" = false) :
    Does w 487 [.ref r] 130 1300 news (fun v news' => PPair 2 0 v news' ∧ RS news' r tds (p + 1) ∧ Keep news news') (fun _ _ => False) := by
  refine RS.elim hR fun rd tl e t nv n h1 h2 => ?_
  unfold Does
  k_fill
  intro _ dp un gd cn cs a ccd cl outer A₀ base h₀ L m mg mb mean s Q E B F X N T hk hd hu hret herr
  have hb : Binds w ob487 [.ref r] [("self", .ref r)] := .plain rfl
  refine wpAny_call ?_
  k_dflt ktr_enter
  k_steps
  exact hret _ _ _ _ (by k_asm) (by k_asm) ⟨⟨_, _, _, rfl, by assumption⟩, by walk_at "RS", by walk_at "Keep"⟩
end Mine
theorem off_Nm2 : True := by
  (k_with "off_Nm2" => skip)
  trivial
end

section
open PySem PySem.W PyProof.Rows
set_option maxRecDepth 100000
namespace Mine
def cutAt (h : Heap) (n : Nat) : Heap := { h with objs := h.objs.extract 0 n }
theorem cutAt_get {h : Heap} {n b : Nat} {o : Obj} (hb : b < n) (e : h.get? b = some o) : (cutAt h n).get? b = some o := by
  obtain ⟨e1, e2⟩ := Heap.get?_some_iff.mp e
  refine Heap.get?_some_iff.mpr ⟨?_, e2⟩
  show (h.objs.extract 0 n)[b]? = some o
  rw [Array.getElem?_extract]
  have : b < min n h.objs.size - 0 := by
    have := (Array.getElem?_eq_some_iff.mp e1).1
    omega
  rw [if_pos this, Nat.zero_add]
  exact e1
theorem cutAt_of {h : Heap} {n b : Nat} {o : Obj} (e : (cutAt h n).get? b = some o) : h.get? b = some o ∧ b < n := by
  obtain ⟨e1, e2⟩ := Heap.get?_some_iff.mp e
  have e1' : (h.objs.extract 0 n)[b]? = some o := e1
  rw [Array.getElem?_extract] at e1'
  split at e1'
  · rename_i hb
    rw [Nat.zero_add] at e1'
    exact ⟨Heap.get?_some_iff.mpr ⟨e1', e2⟩, by omega⟩
  · cases e1'
theorem code_defF {prog : Program} {w : World} {A A₀ : Around} {s : Shared} {base h₀ : Heap} {L : Addr} {m mg mb : PySem.Str → Option Value} {K : Frag} {p : Program} {loose : List PySem.Str} {mean : ExcName → Option Value} {news : Led}
    {env : Env} {outer : List Env} {R : Result → Shared → Prop} {name qual : PySem.Str} {params : Arguments} {body : List Stmt} {scope : Scope} {dV kV doc pm cdv ct oc : Value} {an od : Option Addr} {osl : Array (Option Value)} {f : Addr} {args : Args} {binds : List (PySem.Str × Value)}
    (B : Below A₀ base outer h₀) (F : Fr h₀ L s.heap m) (X₀ : K.In h₀) (N : News h₀ L s.heap news) (T : Top p loose mean mg mb h₀) (hA : A.frames = some (env :: outer)) (hf : env.frame = some L) (hke : env.scope.kind = .function)
    (ho : K.lookup f = some ⟨oc, od, .func (fnOf name qual params body scope dV kV doc pm an cdv ct), osl⟩) (hcd : codeIn K cdv qual = true) (hroom : A.depth < recursionLimit)
    (hbind : BindsTo s (fnOf name qual params body scope dV kV doc pm an cdv ct) args binds) (hloc : ∀ y ∈ binds, scope.names.lookup y.1 = some .local)
    (h : ∀ g L' h₁, Fr h₀ L g m → Fr g L' h₁ (fun y => binds.reverse.lookup y) → News g L' h₁ [] → Below A base (env :: outer) g → K.In g → Top p loose mean mg mb g → (∀ q ∈ news, g.get? q.1 = some q.2) →
      wpAny (model prog w) (A.deeper (envOf qual scope L' f cdv)) (execs body (envOf qual scope L' f cdv))
        (fun fl s' => LeaveK h₀ L m g (fun r s' => News h₀ L s'.heap news → R r s') (match fl with | .ret v => v | _ => .none) s')
        (fun e s' => wpAny (model prog w) (A.deeper (envOf qual scope L' f cdv)) (leaving (envOf qual scope L' f cdv) e) (fun _ s'' => R (.error e) s'') (fun e' s'' => R (.error e') s'') s')
        { s with heap := h₁, toks := s.toks + binds.length })
    (hco : scope.isCoroutine = false) (hgen : scope.isGenerator = false) (hk : scope.kind = .function)
    (hcell : ∀ x ∈ scope.names, x.2 ≠ .cell) : codeAny (model prog w) A (.call (.ref f) args) R s := by
  refine callX_plain (cl := []) B F N T.nolimit hA hf hke ((X₀.keeps F.keep) _ _ ho) rfl (codeRec_of (X₀.keeps F.keep) hcd) hroom hbind hloc (fun g L' h₁ FG F' N' B' st l => ?_) hcell hco hgen hk
  have lt : @LT.lt Nat _ L' h₁.objs.size := by
    obtain ⟨o, _, _, ho, _⟩ := F'.ns
    exact Heap.lt_size ho
  have up : ∀ b o, g.get? b = some o → (cutAt h₁ L').get? b = some o := fun b o e => cutAt_get (Nat.lt_of_lt_of_le (Heap.lt_size e) F'.above) (F'.keep _ _ e)
  have nw : ∀ q ∈ news, (cutAt h₁ L').get? q.1 = some q.2 := fun q hq => cutAt_get (l q hq) (N' q hq).1
  have ab : g.objs.size ≤ (cutAt h₁ L').objs.size := by
    show _ ≤ (h₁.objs.extract 0 L').size
    rw [Array.size_extract]
    have a1 : @LE.le Nat _ g.objs.size L' := F'.above
    exact Nat.le_min.mpr ⟨a1, Nat.le_of_lt (Nat.lt_of_le_of_lt a1 lt)⟩
  refine wpAny_mono (h (cutAt h₁ L') L' h₁ ⟨FG.ns.keeps up, fun b o e => up _ _ (FG.keep _ _ e), FG.above⟩ ⟨F'.ns, fun b o e => (cutAt_of e).1, ?_⟩ (fun _ hp => nomatch hp) ⟨B'.stack, fun b o e => up _ _ (B'.stays b o e), B'.frames.of_keeps fun b o e _ => ⟨o, up _ _ e, rfl⟩⟩
    ((X₀.keeps st).keeps up) ((T.keeps st).keeps up) nw) (fun fl s' hl => ?_) fun _ _ y => y
  · show (h₁.objs.extract 0 L').size ≤ L'
    rw [Array.size_extract]
    exact Nat.min_le_left _ _
  · obtain ⟨L'', m'', new, F2, N2, k⟩ := hl
    have neL : ∀ q ∈ news, q.1 ≠ L'' := fun q hq z => by
      have a := nw q hq
      rw [z, kts_self F2] at a; cases a
    have N3 : News g L'' s'.heap (new ++ news) := by
      intro q hq
      rcases List.mem_append.mp hq with hq | hq
      · refine ⟨(N2 q hq).1, (N2 q hq).2.1, ?_⟩
        cases z : g.get? q.1 with
        | none => rfl
        | some o => have := up _ _ z; rw [(N2 q hq).2.2] at this; cases this
      · exact ⟨F2.keep _ _ (nw q hq), neL q hq, (N' q hq).2.2⟩
    exact ⟨L'', m'', new ++ news, ⟨F2.ns, fun b o e => F2.keep _ _ (up _ _ e), Nat.le_trans ab F2.above⟩, N3, fun kF kN => k kF (fun q hq => kN q (List.mem_append_left _ hq)) fun q hq => kN q (List.mem_append_right _ hq)⟩
end Mine
end

section
open PySem PySem.W PyProof.Rows PySem.Calls PySem.Spec
set_option maxRecDepth 100000
namespace Mine
open LCg
section
variable {prog : Program} {w : World} {A : Around} {E : Value → Shared → Prop} {s : Shared} {h₀ : Heap} {L : Addr} {m : PySem.Str → Option Value} {env : Env}
def SrcT (prog : Program) (w : World) (A : Around) (h₀ : Heap) (L : Addr) (m : PySem.Str → Option Value) (env : Env) (elt : Expr) (x : PySem.Str) (scope : Scope) (cl : List (PySem.Str × Addr)) (Fin : Shared → List Value → Led → Prop) (xv : Value) (s₁ : Shared) : Prop :=
  ∃ tx t news, xv = .str tx t ∧ tx.cps.all (· < 128) = true ∧ tx.cps.size ≤ sizeLine ∧ A.handled = none ∧ Fr h₀ L s₁.heap m ∧ News h₀ L s₁.heap news ∧
    ∀ s₂ : Shared, (∃ h, s₂ = { s₁ with heap := h }) → CompRest prog w A h₀ L m env elt x scope cl s₂ (fun _ => True) (SignAt tx) (Fin s₂) tx.cps.size 0 [] news
theorem SrcT.intro {elt : Expr} {x : PySem.Str} {scope : Scope} {cl : List (PySem.Str × Addr)} {Fin : Shared → List Value → Led → Prop} {tx : PySem.Str} {t : Tok} {news : Led} {s₁ : Shared} (F : Fr h₀ L s₁.heap m) (N : News h₀ L s₁.heap news) (hh : A.handled = none)
    (ha : tx.cps.all (· < 128) = true) (hz : tx.cps.size ≤ sizeLine) (n : Nat) (hn : tx.cps.size = n) (h : ∀ g, CompRest prog w A h₀ L m env elt x scope cl { s₁ with heap := g } (fun _ => True) (SignAt tx) (Fin { s₁ with heap := g }) n 0 [] news) :
    SrcT prog w A h₀ L m env elt x scope cl Fin (.str tx t) s₁ := ⟨tx, t, news, rfl, ha, hz, hh, F, N, fun _ ⟨g, e⟩ => by subst e hn; exact h g⟩
theorem assign_text {elt iter : Expr} {x y : PySem.Str} {px py : Pos} {scope : Scope} {cl : List (PySem.Str × Addr)} {pos spos : Pos} {Q : Flow → Shared → Prop} (F₀ : Fr h₀ L s.heap m) (hLe : env.locals = L)
    (hsw : swapsWith (.ListComp elt [⟨.Name x px, iter, [], 0⟩] scope pos) (some (.Name y py)) spos.line env = pure true)
    (hclos : closureFor scope env = pure cl) (hcell : ∀ z ∈ scope.names, z.2 ≠ .cell) (hkind : scope.kind = .function)
    (hnames : ∀ z ∈ scope.names, z.2 = .local → scope.names.lookup z.1 = some .local) (hx : scope.names.lookup x = some .local)
    (hy : env.kindOf y = some .local) (hp : (env.scope.kind == .class || (env.scope.kind == .module && env.locals != env.globals)) = false)
    (h : wpAny (model prog w) A (eval iter env) (SrcT prog w A h₀ L m env elt x scope cl (fun s₂ => FinA h₀ L m s₂ y Q)) E s)
    (hs : ∀ x, foldedSetIterable iter env x = pure x := by intro _; rfl) :
    wpAny (model prog w) A (exec (.Assign [.Name y py] (.ListComp elt [⟨.Name x px, iter, [], 0⟩] scope pos) spos) env) Q E s := by
  subst hLe
  rw [exec_Assign_Name_used _ _ _ _ hsw]
  refine wpAny_bind (wpAny_standAt (wpAny_bind ?_))
  show wpAny _ A (do let _ ← comprehension (.ListComp elt [⟨.Name x px, iter, [], 0⟩] scope pos) scope env _ (newList []) false (eval iter env) (some (assign (.Name y py) env))) _ _ s
  refine wpAny_bind (wpAny_mono (wpAny_comprehension_free (use := some (assign (.Name y py) env)) (Q := fun _ s' => Q .next s') rfl hs hclos hkind hnames
    (wpAny_mono h (fun xv s₁ h₁ => ?_) fun _ _ e => e)) (fun _ s' hq => wpAny_pure (wpAny_pure hq)) fun _ _ e => e)
  obtain ⟨tx, t, news, rfl, ha, hz, hh, F, N, R⟩ := h₁
  refine wpAny_pyIter_ascii ha ?_
  have up : ∀ b o, s₁.heap.get? b = some o → (s₁.heap.push { cls := .type "str_ascii_iterator", data := .fields #[.str tx t, .int 0 0] }).get? b = some o := fun b o e => Heap.get?_push_of_some _ e
  have st : ∀ i (h h' : Heap) (o : Obj) (nw : Led), h.IsStrIter s₁.heap.objs.size "str_ascii_iterator" tx t i → h.get? s₁.heap.objs.size = some o → h'.get? s₁.heap.objs.size = some o → (∀ b o, h₀.get? b = some o → h'.get? b = some o) → News h₀ env.locals h' nw → True → h'.IsStrIter s₁.heap.objs.size "str_ascii_iterator" tx t i := by
    intro i h h' o nw st e e' _ _ _
    obtain ⟨o', q, r⟩ := st
    rw [e] at q
    cases q
    exact ⟨o, e', r⟩
  refine block_U (Walks.strAscii hh s₁.heap.objs.size tx t) hz (fun i h st => by obtain ⟨o, e, _⟩ := st; exact ⟨o, e⟩) st hcell hkind hx ⟨_, Heap.get?_push_size _ rfl, rfl, rfl⟩ (fun b hb => ?_)
    (F.keeps up) (N.grown up) (Nat.ne_of_lt F.ns.lt) (next_is_new F) (fun p hp => Nat.ne_of_lt (Heap.lt_size (N p hp).1)) trivial (R _ ⟨_, rfl⟩) ?_
  · rw [List.mem_singleton.mp hb]
    show s₁.heap.objs.size < (s₁.heap.push _).objs.size
    rw [Heap.size_push]
    exact Nat.lt_succ_self _
  · intro D C h' tk m' ys news' F' N' o1 hn hC₀ hD₀ hCL hDL hCD offC fin
    show wpAny _ A (assign (.Name y py) env (.ref D)) _ _ _
    refine wpAny_assign_Name (wpAny_storeName_local hy F'.ns (fun h₂ hn₂ hs₂ => ?_) hp)
    have hL₀ : h₀.get? env.locals = none := Heap.get?_none_of_le F'.above
    have F₂ : Fr h₀ env.locals h₂ (fun z => if z = y then some (.ref D) else m z) := ⟨hn₂, fun b o e => hs₂.extBut b o (fun q => by rw [q, hL₀] at e; cases e) (F'.keep b o e), F'.above⟩
    refine ⟨m', hn.sameBut hs₂ hCL, fun h'' hs'' => fin D h'' _ (F₂.change hs'' hCL hC₀) (fun p hp => ?_) o1⟩
    have z : h₂.get? p.1 = some p.2 := hs₂.extBut _ _ (N' p hp).2.1 (N' p hp).1
    refine ⟨hs''.extBut _ _ ?_ z, (N' p hp).2⟩
    rcases List.mem_cons.mp hp with rfl | hp
    · exact Ne.symm hCD
    · exact offC p hp
end
end Mine
end

section
open PySem PySem.W PyProof.Rows
set_option maxRecDepth 100000
namespace Mine
theorem reg_Oc2_0 : True := by
  (k_with "nt on" => ((fail_if_success walk_at "off_Oc2"); (skip)))
  (k_with "enterF" => ((fail_if_success walk_at "off_Oc2"); (refine' code_defF ?k1 ?k2 ?k3 ?k4 ?k5 ?kA ?kF ?kK ?k6 ?k7 ?k8 ?k9 ?kB ?_ ?c2 ?c3 ?c4 ?c5; (case kA => exact rfl); (case kF => exact rfl); (case kK => assumption); (case k1 => k_asm); (case k2 => k_asm); (case k3 => k_asm); (case k4 => k_asm); (case k5 => k_asm); (case k6 => k_is); (case k7 => k_is); (case k8 => walk_at "room0"); (case k9 => (rename Binds _ _ _ _ => hbX; exact hbX _ (by k_in))); (case c5 => decide); (case kB => exact locs rfl); (case c2 => exact rfl); (case c3 => exact rfl); (case c4 => exact rfl); k_whole; intro g' L' h' FG' F' N' B' X' T' nw'; (try dsimp only); (try walk_at "fold"))))
  (k_with "ite" => ((fail_if_success walk_at "off_Oc2"); (k_here; first | refine ite_yes (by decide +kernel) ?_ | refine ite_no (by decide +kernel) ?_)))
  (k_with "exec Assign cons ListComp" => ((fail_if_success walk_at "off_Oc2"); (k_here; k_dflt (refine assign_text (F₀ := by k_asm) (by rfl) (by with_unfolding_all rfl) (by with_unfolding_all rfl) (by decide) (by rfl) (by decide) (by rfl) (by rfl) (by rfl) ?_))))
  (k_with "SrcT" => ((fail_if_success walk_at "off_Oc2"); (k_dflt (refine SrcT.intro (by k_asm) (by k_asm) (by rfl) (by decide +kernel) (by decide +kernel) _ (by exact rfl) ?_); intro g')))
  (k_with "CompRest" => ((fail_if_success walk_at "off_Oc2"); (with_unfolding_all (refine LCg.CompRest.succ ?_; intro v' I' oI' C' oC' D' m' h' tk' E' hv' hC' hx' F' N' off' ne'; obtain ⟨c9, u9, hc9, hv9⟩ := hv'; lcg_open hc9; subst hv9; (try simp only [LCg.Off3, and_true] at off')))))
  (k_with "call type:bytes" => ((fail_if_success walk_at "off_Oc2"); (k_here; k_dflt (refine' bytes_K ?F ?N ?l ?i ?r ?z ?h ?_; (case F => k_asm); (case N => k_asm); (case l => exact News.isList (by k_asm) (by k_mem)); (case i => (repeat constructor)); (case r => decide +kernel); (case z => exact Nat.le_of_ble_eq_true rfl); (case h => rfl)); intro h' t' k' F' N' hB')))
  trivial
theorem News.app {h₀ h : Heap} {L : Addr} {a b : Led} (x : News h₀ L h a) (y : News h₀ L h b) : News h₀ L h (a ++ b) := fun p hp => (List.mem_append.mp hp).elim (x p) (y p)
def PBytes (b : Array UInt8) (v : Value) (_ : Led) : Prop := ∃ t, v = .bytes b t
set_option maxHeartbeats 8000000 in
theorem octets_of_Q (w : World) (news : Led) (t : Nat) :
    Does w 342 [.str ⟨#[81]⟩ t] 130 1300 news (fun v news' => PBytes #[81] v news' ∧ ∀ q ∈ news, q ∈ news') (fun _ _ => False) := by
  unfold Does
  k_fill
  intro _ dp un gd cn cs a ccd cl outer A₀ base h₀ L m mg mb mean s Q E B F X N T hk hd hu hret herr
  have hb : Binds w ob342 [.str ⟨#[81]⟩ t] [("text", .str ⟨#[81]⟩ t)] := .plain rfl
  refine wpAny_call ?_
  k_dflt (walk_at "enterF")
  k_steps
  rename News h₀ L _ news => N8; revert N8
  rename News h₀ L _ _ => N7; intro N8
  exact hret _ (_ ++ news) _ _ (by k_asm) (News.app N7 N8) ⟨⟨_, congrArg (Value.bytes · _) (by decide +kernel)⟩, fun q hq => List.mem_append_right _ hq⟩
set_option maxHeartbeats 8000000 in
theorem octets_of_AB (w : World) (news : Led) (t : Nat) :
    Does w 342 [.str ⟨#[65, 66]⟩ t] 130 1300 news (fun v news' => PBytes #[65, 66] v news' ∧ ∀ q ∈ news, q ∈ news') (fun _ _ => False) := by
  unfold Does
  k_fill
  intro _ dp un gd cn cs a ccd cl outer A₀ base h₀ L m mg mb mean s Q E B F X N T hk hd hu hret herr
  have hb : Binds w ob342 [.str ⟨#[65, 66]⟩ t] [("text", .str ⟨#[65, 66]⟩ t)] := .plain rfl
  refine wpAny_call ?_
  k_dflt (walk_at "enterF")
  k_steps
  rename News h₀ L _ news => N8; revert N8
  rename News h₀ L _ _ => N7; intro N8
  exact hret _ (_ ++ news) _ _ (by k_asm) (News.app N7 N8) ⟨⟨_, congrArg (Value.bytes · _) (by decide +kernel)⟩, fun q hq => List.mem_append_right _ hq⟩
set_option maxHeartbeats 8000000 in
theorem octets_of_SUB (w : World) (news : Led) (t : Nat) :
    Does w 342 [.str ⟨#[83, 85, 66]⟩ t] 130 1300 news (fun v news' => PBytes #[83, 85, 66] v news' ∧ ∀ q ∈ news, q ∈ news') (fun _ _ => False) := by
  unfold Does
  k_fill
  intro _ dp un gd cn cs a ccd cl outer A₀ base h₀ L m mg mb mean s Q E B F X N T hk hd hu hret herr
  have hb : Binds w ob342 [.str ⟨#[83, 85, 66]⟩ t] [("text", .str ⟨#[83, 85, 66]⟩ t)] := .plain rfl
  refine wpAny_call ?_
  k_dflt (walk_at "enterF")
  k_steps
  rename News h₀ L _ news => N8; revert N8
  rename News h₀ L _ _ => N7; intro N8
  exact hret _ (_ ++ news) _ _ (by k_asm) (News.app N7 N8) ⟨⟨_, congrArg (Value.bytes · _) (by decide +kernel)⟩, fun q hq => List.mem_append_right _ hq⟩
end Mine
theorem off_Oc2 : True := by
  (k_with "off_Oc2" => skip)
  trivial
end

section
open PySem PySem.W PyProof.Rows
set_option maxRecDepth 100000
namespace Mine
theorem reg_Oc3_0 : True := by
  (k_with "nt on" => ((fail_if_success walk_at "off_Oc3"); (skip)))
  (k_with "k_mem" => ((fail_if_success walk_at "off_Oc3"); first | ((show _ ∈ _); ktr_member) | exact List.Mem.head _ | (refine' List.mem_cons_of_mem _ ?_; k_mem) | (refine sub_at (by assumption) ?_; k_mem) | (refine keep_at (by assumption) (by first | rfl | decide +kernel) ?_; k_mem)))
  (k_with "Keep" => ((fail_if_success walk_at "off_Oc3"); (intro q9 hq9 hi9; repeat (first | exact hq9 | refine sub_at (by assumption) ?_ | refine keep_at (by assumption) hi9 ?_ | refine List.mem_cons_of_mem _ ?_))))
  trivial
theorem octets_x_Q (w : World) (x : PySem.Str) (t : Nat) (news : Led) (hx : x = ⟨#[81]⟩) : Does w 342 [.str x t] 130 1300 news (fun v news' => PBytes #[81] v news' ∧ ∀ q ∈ news, q ∈ news') (fun _ _ => False) := by subst hx; exact octets_of_Q w news t
theorem octets_x_AB (w : World) (x : PySem.Str) (t : Nat) (news : Led) (hx : x = ⟨#[65, 66]⟩) : Does w 342 [.str x t] 130 1300 news (fun v news' => PBytes #[65, 66] v news' ∧ ∀ q ∈ news, q ∈ news') (fun _ _ => False) := by subst hx; exact octets_of_AB w news t
theorem octets_x_SUB (w : World) (x : PySem.Str) (t : Nat) (news : Led) (hx : x = ⟨#[83, 85, 66]⟩) : Does w 342 [.str x t] 130 1300 news (fun v news' => PBytes #[83, 85, 66] v news' ∧ ∀ q ∈ news, q ∈ news') (fun _ _ => False) := by subst hx; exact octets_of_SUB w news t
theorem reg_Oc3_1 : True := by
  (k_with "does" => first | with_reducible exact peek_does _ _ _ _ _ _ _ (by walk_at "RS") (by first | with_reducible assumption | decide | omega) | with_reducible exact peek_does0 _ _ _ _ _ (by walk_at "RS"))
  (k_with "does" => first | with_reducible exact is_kind_does _ _ _ _ _ _ _ _ _ (by walk_at "RS") (by first | with_reducible assumption | decide | omega) | with_reducible exact is_kind_does0 _ _ _ _ _ _ _ (by walk_at "RS"))
  (k_with "does" => ((fail_if_success walk_at "off_Oc3"); first | with_reducible exact octets_x_Q _ _ _ _ (by decide +kernel) | with_reducible exact octets_x_AB _ _ _ _ (by decide +kernel) | with_reducible exact octets_x_SUB _ _ _ _ (by decide +kernel)))
  trivial
set_option maxHeartbeats 8000000 in
theorem octets_Q (w : World) (r : Addr) (news : Led) (tds : List (PySem.Str × PySem.Str)) (p : Nat) (hR : RS news r tds p) (htd : tds[p]? = some (("literal" : PySem.Str), ("Q" : PySem.Str))) (hk : kindAt tds p "literal" = true) :
    Does w 508 [.ref r] 150 1500 news (fun v news' => PBytes #[81] v news' ∧ RS news' r tds (p + 1) ∧ Keep news news') (fun _ _ => False) := by
  have hR0 := hR
  obtain ⟨rd, tl, toks, e, t, nv, n, ln, h1, h2, h3, hl, hz, ht⟩ := hR0
  unfold Does
  k_fill
  intro _ dp un gd cn cs a ccd cl outer A₀ base h₀ L m mg mb mean s Q E B F X N T hk hd hu hret herr
  have hb : Binds w ob508 [.ref r] [("self", .ref r)] := .plain rfl
  refine wpAny_call ?_
  k_dflt ktr_enter
  k_steps
  exact hret _ _ _ _ (by k_asm) (by k_asm) ⟨⟨_, rfl⟩, RS.keep h1 h3 hl hz ht (by walk_at "Keep") (by assumption), by walk_at "Keep"⟩
set_option maxHeartbeats 8000000 in
theorem octets_AB (w : World) (r : Addr) (news : Led) (tds : List (PySem.Str × PySem.Str)) (p : Nat) (hR : RS news r tds p) (htd : tds[p]? = some (("literal" : PySem.Str), ("AB" : PySem.Str))) (hk : kindAt tds p "literal" = true) :
    Does w 508 [.ref r] 150 1500 news (fun v news' => PBytes #[65, 66] v news' ∧ RS news' r tds (p + 1) ∧ Keep news news') (fun _ _ => False) := by
  have hR0 := hR
  obtain ⟨rd, tl, toks, e, t, nv, n, ln, h1, h2, h3, hl, hz, ht⟩ := hR0
  unfold Does
  k_fill
  intro _ dp un gd cn cs a ccd cl outer A₀ base h₀ L m mg mb mean s Q E B F X N T hk hd hu hret herr
  have hb : Binds w ob508 [.ref r] [("self", .ref r)] := .plain rfl
  refine wpAny_call ?_
  k_dflt ktr_enter
  k_steps
  exact hret _ _ _ _ (by k_asm) (by k_asm) ⟨⟨_, rfl⟩, RS.keep h1 h3 hl hz ht (by walk_at "Keep") (by assumption), by walk_at "Keep"⟩
set_option maxHeartbeats 8000000 in
theorem octets_SUB (w : World) (r : Addr) (news : Led) (tds : List (PySem.Str × PySem.Str)) (p : Nat) (hR : RS news r tds p) (htd : tds[p]? = some (("literal" : PySem.Str), ("SUB" : PySem.Str))) (hk : kindAt tds p "literal" = true) :
    Does w 508 [.ref r] 150 1500 news (fun v news' => PBytes #[83, 85, 66] v news' ∧ RS news' r tds (p + 1) ∧ Keep news news') (fun _ _ => False) := by
  have hR0 := hR
  obtain ⟨rd, tl, toks, e, t, nv, n, ln, h1, h2, h3, hl, hz, ht⟩ := hR0
  unfold Does
  k_fill
  intro _ dp un gd cn cs a ccd cl outer A₀ base h₀ L m mg mb mean s Q E B F X N T hk hd hu hret herr
  have hb : Binds w ob508 [.ref r] [("self", .ref r)] := .plain rfl
  refine wpAny_call ?_
  k_dflt ktr_enter
  k_steps
  exact hret _ _ _ _ (by k_asm) (by k_asm) ⟨⟨_, rfl⟩, RS.keep h1 h3 hl hz ht (by walk_at "Keep") (by assumption), by walk_at "Keep"⟩
end Mine
theorem off_Oc3 : True := by
  (k_with "off_Oc3" => skip)
  trivial
end

section
open PySem PySem.W PyProof.Rows
set_option maxRecDepth 100000
namespace Mine
theorem reg_Op1_0 : True := by
  (k_with "nt on" => ((fail_if_success walk_at "off_Op1"); (skip)))
  (k_with "k_mem" => ((fail_if_success walk_at "off_Op1"); first | ((show _ ∈ _); ktr_member) | exact List.Mem.head _ | (refine' List.mem_cons_of_mem _ ?_; k_mem) | (refine sub_at (by assumption) ?_; k_mem) | (refine keep_at (by assumption) (by first | rfl | decide +kernel) ?_; k_mem)))
  (k_with "Keep" => ((fail_if_success walk_at "off_Op1"); (intro q9 hq9 hi9; repeat (first | exact hq9 | refine sub_at (by assumption) ?_ | refine keep_at (by assumption) hi9 ?_ | refine List.mem_cons_of_mem _ ?_))))
  trivial
abbrev Tds := List (PySem.Str × PySem.Str)
abbrev tk_ (k x : PySem.Str) : PySem.Str × PySem.Str := (k, x)
def NumAt (tds : Tds) (p : Nat) (k : Int) : Prop := (tds[p]? = some (tk_ "number" "7") ∧ k = 7) ∨ (tds[p]? = some (tk_ "number" "2") ∧ k = 2)
def LitAt (tds : Tds) (p : Nat) (b : Array UInt8) : Prop := (tds[p]? = some (tk_ "literal" "Q") ∧ b = #[81]) ∨ (tds[p]? = some (tk_ "literal" "AB") ∧ b = #[65, 66]) ∨ (tds[p]? = some (tk_ "literal" "SUB") ∧ b = #[83, 85, 66])
theorem no_fig {o : Option PySem.Str} {x : PySem.Str} (h : o = none) (h' : o = some x) : False := by rw [h] at h'; cases h'
theorem no_fig' {o : Option PySem.Str} {x : PySem.Str} (h : o = some x) (h' : o = none) : False := no_fig h' h
theorem same_fig {o : Option PySem.Str} {td td' : PySem.Str} (h : o = some td) (h' : o = some td') : td = td' := Option.some.inj (h.symm.trans h')
theorem kind_of {tds : Tds} {p : Nat} {k x kk : PySem.Str} {b : Bool} (h : tds[p]? = some (k, x)) (hb : (k == kk) = b) : kindAt tds p kk = b := by unfold kindAt; rw [h]; exact hb
theorem tok_of {tds : Tds} {p : Nat} {k x kk xx : PySem.Str} {b : Bool} (h : tds[p]? = some (k, x)) (hb : (k == kk && x == xx) = b) : tokIs tds p kk xx = b := by unfold tokIs; rw [h]; exact hb
theorem tok_kind {tds : Tds} {p : Nat} {k x kk xx : PySem.Str} (h : tds[p]? = some (k, x)) (hb : (k == kk) = false) : tokIs tds p kk xx = false := by unfold tokIs; rw [h]; show (k == kk && x == xx) = false; rw [hb]; rfl
theorem NumAt.facts {tds : Tds} {p : Nat} {k : Int} (h : NumAt tds p k) : isNum tds p = true ∧ tokIs tds p "sign" "-" = false ∧ tokIs tds p "sign" "+" = false := by
  rcases h with ⟨h, _⟩ | ⟨h, _⟩ <;> (
    have a : tokIs tds p "sign" "-" = false := tok_kind h (by decide +kernel)
    have b : tokIs tds p "sign" "+" = false := tok_kind h (by decide +kernel)
    refine ⟨?_, a, b⟩
    unfold isNum
    rw [a, b]
    exact kind_of h (by decide +kernel))
theorem signed_does (w : World) (r : Addr) (news : Led) (tds : Tds) (p : Nat) (k : Int) (hR : RS news r tds p) (h : NumAt tds p k) :
    Does w 487 [.ref r] 130 1300 news (fun v news' => PPair k 0 v news' ∧ RS news' r tds (p + 1) ∧ Keep news news') (fun _ _ => False) := by
  obtain ⟨a, b, c⟩ := h.facts
  rcases h with ⟨h, rfl⟩ | ⟨h, rfl⟩
  · exact signed_7 w r news tds p hR h a b c
  · exact signed_2 w r news tds p hR h a b c
theorem LitAt.facts {tds : Tds} {p : Nat} {b : Array UInt8} (h : LitAt tds p b) : isNum tds p = false ∧ kindAt tds p "literal" = true := by
  rcases h with ⟨h, _⟩ | ⟨h, _⟩ | ⟨h, _⟩ <;> (
    have a : tokIs tds p "sign" "-" = false := tok_kind h (by decide +kernel)
    have b : tokIs tds p "sign" "+" = false := tok_kind h (by decide +kernel)
    refine ⟨?_, kind_of h (by decide +kernel)⟩
    unfold isNum
    rw [a, b]
    exact kind_of h (by decide +kernel))
theorem octets_does (w : World) (r : Addr) (news : Led) (tds : Tds) (p : Nat) (b : Array UInt8) (hR : RS news r tds p) (h : LitAt tds p b) :
    Does w 508 [.ref r] 150 1500 news (fun v news' => PBytes b v news' ∧ RS news' r tds (p + 1) ∧ Keep news news') (fun _ _ => False) := by
  have k := h.facts.2
  rcases h with ⟨h, rfl⟩ | ⟨h, rfl⟩ | ⟨h, rfl⟩
  · exact octets_Q w r news tds p hR h k
  · exact octets_AB w r news tds p hR h k
  · exact octets_SUB w r news tds p hR h k
theorem reg_Op1_1 : True := by
  (k_with "does" => first | with_reducible exact is_number_does _ _ _ _ _ (by walk_at "RS"))
  (k_with "does" => first | with_reducible exact is_kind_does _ _ _ _ _ _ _ _ _ (by walk_at "RS") (by first | with_reducible assumption | decide | omega) | with_reducible exact is_kind_does0 _ _ _ _ _ _ _ (by walk_at "RS"))
  (k_with "does" => first | with_reducible exact skip_does _ _ _ _ _ _ _ (by walk_at "RS") (by first | assumption | exact ⟨by decide +kernel, by decide⟩))
  (k_with "does" => ((fail_if_success walk_at "off_Op1"); first | with_reducible exact read_figure_does _ _ _ _ _ (by walk_at "RS")))
  (k_with "does" => ((fail_if_success walk_at "off_Op1"); first | with_reducible exact signed_does _ _ _ _ _ _ (by walk_at "RS") (by assumption)))
  (k_with "does" => ((fail_if_success walk_at "off_Op1"); first | with_reducible exact octets_does _ _ _ _ _ _ (by walk_at "RS") (by assumption)))
  (k_with "got more" => ((fail_if_success walk_at "off_Op1"); (intro hv'; first | (obtain ⟨hp', hR', hK'⟩ := hv'; (first | (obtain ⟨t', hv'⟩ := hp'; subst hv') | (obtain ⟨a', t1', t2', hv', hm'⟩ := hp'; subst hv') | (have hd' : DatIn _ _ _ := hp'))) | (rcases hv' with ⟨hf', hv', hn'⟩ | ⟨a', nm', t1', t2', hf', hv', hm', hR', hK'⟩ <;> first | exact (no_fig hf' (by assumption)).elim | exact (no_fig' hf' (by assumption)).elim | (subst hv'; subst hn') | (subst hv'; (first | ((have hc' := fun td h => same_fig (td := td) h hf'); clear hf'; (have he' := hc' _ (by assumption)); subst he'; clear hc') | skip))))))
  trivial
set_option maxHeartbeats 8000000 in
theorem read_all_does (w : World) (r : Addr) (news : Led) (tds : Tds) (p : Nat) (hR : RS news r tds p) (b : Array UInt8) (hL : LitAt tds p b) (hk : kindAt tds p "literal" = true) :
    Does w 57 [.ref r] 160 1700 news (fun v news' => DatIn news' v (.tuple [.str "all", .bytes b]) ∧ RS news' r tds (p + 1) ∧ Keep news news') (fun _ _ => False) := by
  refine RS.elim hR fun rd tl e t nv n h1 h2 => ?_
  unfold Does
  k_fill
  intro _ dp un gd cn cs a ccd cl outer A₀ base h₀ L m mg mb mean s Q E B F X N T hk hd hu hret herr
  have hb : Binds w ob57 [.ref r] [("reader", .ref r)] := .plain rfl
  refine wpAny_call ?_
  k_dflt ktr_enter
  k_steps
  exact hret _ _ _ _ (by k_asm) (by k_asm) ⟨.tuple (by k_mem) (.cons (.str _ _) (.cons (.bytes _ _) .nil)), by walk_at "RS", by walk_at "Keep"⟩
set_option maxHeartbeats 8000000 in
theorem operand_num (w : World) (r : Addr) (news : Led) (tds : Tds) (p : Nat) (hR : RS news r tds p) (ve : Value) (k : Int) (hN : NumAt tds p k) (hn : isNum tds p = true) :
    Does w 71 [.ref r, ve] 170 1900 news (fun v news' => DatIn news' v (.tuple [.str "number", .tuple [.int k, .int 0]]) ∧ RS news' r tds (p + 1) ∧ Keep news news') (fun _ _ => False) := by
  refine RS.elim hR fun rd tl e t nv n h1 h2 => ?_
  unfold Does
  k_fill
  intro _ dp un gd cn cs a ccd cl outer A₀ base h₀ L m mg mb mean s Q E B F X N T hk hd hu hret herr
  have hb : Binds w ob71 [.ref r, ve] [("reader", .ref r), ("read_expr", ve)] := .plain rfl
  refine wpAny_call ?_
  k_dflt ktr_enter
  k_steps
  exact hret _ _ _ _ (by k_asm) (by k_asm) ⟨.tuple (by k_mem) (.cons (.str _ _) (.cons (.tuple (by k_mem) (.cons (.int _ _) (.cons (.int _ _) .nil))) .nil)), by walk_at "RS", by walk_at "Keep"⟩
set_option maxHeartbeats 8000000 in
theorem operand_lit (w : World) (r : Addr) (news : Led) (tds : Tds) (p : Nat) (hR : RS news r tds p) (ve : Value) (b : Array UInt8) (hL : LitAt tds p b) (hn : isNum tds p = false) (hk : kindAt tds p "literal" = true) :
    Does w 71 [.ref r, ve] 170 1900 news (fun v news' => DatIn news' v (.tuple [.str "text", .bytes b]) ∧ RS news' r tds (p + 1) ∧ Keep news news') (fun _ _ => False) := by
  refine RS.elim hR fun rd tl e t nv n h1 h2 => ?_
  unfold Does
  k_fill
  intro _ dp un gd cn cs a ccd cl outer A₀ base h₀ L m mg mb mean s Q E B F X N T hk hd hu hret herr
  have hb : Binds w ob71 [.ref r, ve] [("reader", .ref r), ("read_expr", ve)] := .plain rfl
  refine wpAny_call ?_
  k_dflt ktr_enter
  k_steps
  exact hret _ _ _ _ (by k_asm) (by k_asm) ⟨.tuple (by k_mem) (.cons (.str _ _) (.cons (.bytes _ _) .nil)), by walk_at "RS", by walk_at "Keep"⟩
theorem reg_Op1_2 : True := by
  (k_with "does" => ((fail_if_success walk_at "off_Op1"); first | with_reducible exact read_all_does _ _ _ _ _ (by walk_at "RS") _ (by assumption) (by assumption)))
  trivial
set_option maxHeartbeats 8000000 in
theorem operand_all (w : World) (r : Addr) (news : Led) (tds : Tds) (p : Nat) (hR : RS news r tds p) (ve : Value) (b : Array UInt8) (hL : LitAt tds (p + 1) b) (hk1 : kindAt tds (p + 1) "literal" = true) (hn : isNum tds p = false) (hk : kindAt tds p "literal" = false) (hA : tokIs tds p "word" "ALL" = true) :
    Does w 71 [.ref r, ve] 170 1900 news (fun v news' => DatIn news' v (.tuple [.str "all", .bytes b]) ∧ RS news' r tds (p + 2) ∧ Keep news news') (fun _ _ => False) := by
  refine RS.elim hR fun rd tl e t nv n h1 h2 => ?_
  unfold Does
  k_fill
  intro _ dp un gd cn cs a ccd cl outer A₀ base h₀ L m mg mb mean s Q E B F X N T hk hd hu hret herr
  have hb : Binds w ob71 [.ref r, ve] [("reader", .ref r), ("read_expr", ve)] := .plain rfl
  refine wpAny_call ?_
  k_dflt ktr_enter
  k_steps
  exact hret _ _ _ _ (by k_asm) (by k_asm) ⟨by assumption, by walk_at "RS", by walk_at "Keep"⟩
set_option maxHeartbeats 8000000 in
theorem operand_fig (w : World) (r : Addr) (news : Led) (tds : Tds) (p : Nat) (hR : RS news r tds p) (ve : Value) (nm : PySem.Str) (hF : figureAt tds p = some nm) (hn : isNum tds p = false) (hk : kindAt tds p "literal" = false) (hA : tokIs tds p "word" "ALL" = false) :
    Does w 71 [.ref r, ve] 170 1900 news (fun v news' => DatIn news' v (.tuple [.str "figure", .str nm]) ∧ RS news' r tds (p + 1) ∧ Keep news news') (fun _ _ => False) := by
  refine RS.elim hR fun rd tl e t nv n h1 h2 => ?_
  unfold Does
  k_fill
  intro _ dp un gd cn cs a ccd cl outer A₀ base h₀ L m mg mb mean s Q E B F X N T hk hd hu hret herr
  have hb : Binds w ob71 [.ref r, ve] [("reader", .ref r), ("read_expr", ve)] := .plain rfl
  refine wpAny_call ?_
  k_dflt ktr_enter
  k_steps
  exact hret _ _ _ _ (by k_asm) (by k_asm) ⟨.tuple (by k_mem) (.cons (.str _ _) (.cons (.str _ _) .nil)), by walk_at "RS", by walk_at "Keep"⟩
end Mine
theorem off_Op1 : True := by
  (k_with "off_Op1" => skip)
  trivial
end

section
open PySem PySem.W PyProof.Rows
set_option maxRecDepth 100000
namespace Mine
def ButC (a b : Led) : Prop := ∀ q ∈ a, q.2.cls ≠ .type "list" → q ∈ b
def But (D : Addr) (a b : Led) : Prop := ∀ q ∈ a, q.1 ≠ D → q ∈ b
theorem append_led {prog : Program} {w : World} {A : Around} {E : Value → Shared → Prop} {s : Shared} {h₀ : Heap} {L D : Addr} {m : PySem.Str → Option Value} {news : Led} {its : Array Value} {n : Nat} {x : Value} {Q : Value → Shared → Prop} (F : Fr h₀ L s.heap m) (N : News h₀ L s.heap news) (hm : (D, W.listOf its n) ∈ news) (hsz : its.size ≤ sizeLine)
    (h : ∀ h' news', Fr h₀ L h' m → News h₀ L h' news' → (D, W.listOf (its.push x) (n + 1)) ∈ news' → But D news news' → (D, W.listOf its n) ∈ news → ButC news news' → Q .none { s with heap := h' }) : wpAny (model prog w) A (call (.builtin "list.append") [.ref D, x]) Q E s := by
  have N2 : News h₀ L s.heap ((D, W.listOf its n) :: news.filter (fun q => q.1 != D)) := by
    intro q hq
    rcases List.mem_cons.mp hq with rfl | hq
    · exact N _ hm
    · exact N q ((List.mem_filter.mp hq).1)
  have hB : But D news ((D, W.listOf (its.push x) (n + 1)) :: news.filter (fun q => q.1 != D)) := fun q hq ne => .tail _ (List.mem_filter.mpr ⟨hq, by simpa using ne⟩)
  refine append_K F N2 (Upd.head ?_) (fun h' F' N' => h h' _ F' N' (.head _) hB hm fun q hq ne => hB q hq ?_) hsz
  rotate_left
  · intro z
    have := Option.some.inj ((N q hq).1.symm.trans (z ▸ (N _ hm).1))
    exact ne (by rw [this])
  intro p hp
  have := (List.mem_filter.mp hp).2
  simpa using this
theorem News.same {h₀ h : Heap} {L a : Addr} {news : Led} {o o' : Obj} (N : News h₀ L h news) (x : (a, o) ∈ news) (y : (a, o') ∈ news) : o = o' := Option.some.inj ((N _ x).1.symm.trans (N _ y).1)
theorem News.ne {h₀ h : Heap} {L a b : Addr} {news : Led} {o o' : Obj} (N : News h₀ L h news) (x : (a, o) ∈ news) (y : (b, o') ∈ news) (ne : o ≠ o') : a ≠ b := fun e => ne (News.same N x (e ▸ y))
theorem ne_ty {o o' : Obj} {a b : String} (h : o.cls = .type a) (h' : o'.cls = .type b) (n : a ≠ b) : o ≠ o' := fun e => n (by rw [e, h'] at h; exact (Value.type.inj h).symm)
theorem ne_cls {o o' : Obj} (h : o.cls ≠ o'.cls) : o ≠ o' := fun e => h (congrArg Obj.cls e)
def NoToks (its : Array Value) (news : Led) : Prop := its = #[] ∨ ∃ y vs n, its[0]? = some (.ref y) ∧ (y, tupO vs n) ∈ news
theorem TokAt.but {h₀ h : Heap} {L D : Addr} {news news' : Led} {its : Array Value} {n : Nat} {x : Addr} {i : Nat} {td : PySem.Str × PySem.Str} (N : News h₀ L h news) (hm : (D, W.listOf its n) ∈ news) (hb : But D news news') (h : TokAt news x i td) : TokAt news' x i td := by
  obtain ⟨dx, ta, t1, t2, tn, e, t, n, a, b, c⟩ := h
  exact ⟨dx, ta, t1, t2, tn, e, t, n, hb _ a (News.ne N a hm (ne_cls (by intro z; cases z))), hb _ b (News.ne N b hm (ne_ty (a := "dict") (b := "list") rfl rfl (by decide))), hb _ c (News.ne N c hm (ne_ty (a := "tuple") (b := "list") rfl rfl (by decide)))⟩
theorem RS.but {h₀ h : Heap} {L D r : Addr} {news news' : Led} {its : Array Value} {n p : Nat} {tds : Tds} (N : News h₀ L h news) (hR : RS news r tds p) (hm : (D, W.listOf its n) ∈ news) (h0 : 0 < tds.length) (hv : NoToks its news) (hb : But D news news') : RS news' r tds p := by
  obtain ⟨rd, tl, toks, e, t, nv, k, ln, h1, h2, h3, hl, hz, ht⟩ := hR
  refine ⟨rd, tl, toks, e, t, nv, k, ln, hb _ h1 (News.ne N h1 hm (ne_cls (by intro z; cases z))), hb _ h2 (News.ne N h2 hm (ne_ty (a := "dict") (b := "list") rfl rfl (by decide))), hb _ h3 ?_, hl, hz, fun i td hi => ?_⟩
  · refine News.ne N h3 hm fun z => ?_
    have e1 : List.toArray toks = its := by
      have := congrArg Obj.data z
      injection this
    rcases hv with rfl | ⟨y, vs, n', hy, hy'⟩
    · have : toks.length = 0 := by simpa using congrArg Array.size e1
      omega
    · subst e1
      have h00 : 0 < toks.length := by omega
      obtain ⟨x, hx, dx, ta, t1, t2, tn, e', t', n'', a, b, c⟩ := ht 0 tds[0] (List.getElem?_eq_getElem h0)
      have hx' : toks[0]? = some (.ref y) := by simpa using hy
      have : x = y := by
        have := hx.symm.trans hx'
        injection this with this
        injection this
      subst this
      exact nomatch congrArg Obj.cls (News.same N a hy')
  · obtain ⟨x, hx, hT⟩ := ht i td hi
    exact ⟨x, hx, hT.but N hm hb⟩
mutual
def noL : Dat → Bool
  | .list _ => false
  | .tuple ds => noLs ds
  | _ => true
def noLs : List Dat → Bool
  | [] => true
  | d :: ds => noL d && noLs ds
end
section
variable {h₀ h : Heap} {L D : Addr} {news news' : Led} {its : Array Value} {n : Nat}
mutual
theorem DatIn.but (N : News h₀ L h news) (hm : (D, W.listOf its n) ∈ news) (hb : But D news news') : ∀ {v : Value} {d : Dat}, DatIn news v d → noL d = true → DatIn news' v d
  | _, _, .none, _ => .none
  | _, _, .bool x, _ => .bool x
  | _, _, .int i t, _ => .int i t
  | _, _, .str x t, _ => .str x t
  | _, _, .bytes x t, _ => .bytes x t
  | _, _, .tuple (ds := ds) hx r, hn => .tuple (hb _ hx (News.ne N hx hm (ne_ty (a := "tuple") (b := "list") rfl rfl (by decide)))) (DatAll.but N hm hb r (by simpa [noL] using hn))
  | _, _, .list _ _, hn => by simp [noL] at hn
theorem DatAll.but (N : News h₀ L h news) (hm : (D, W.listOf its n) ∈ news) (hb : But D news news') : ∀ {vs : List Value} {ds : List Dat}, DatAll news vs ds → noLs ds = true → DatAll news' vs ds
  | _, _, .nil, _ => .nil
  | _, _, .cons x r, hn => .cons (DatIn.but N hm hb x (by simp [noLs] at hn; exact hn.1)) (DatAll.but N hm hb r (by simp [noLs] at hn; exact hn.2))
end
end
mutual
theorem DatIn.butC {a b : Led} (k : ButC a b) : ∀ {v : Value} {d : Dat}, DatIn a v d → noL d = true → DatIn b v d
  | _, _, .none, _ => .none
  | _, _, .bool x, _ => .bool x
  | _, _, .int i t, _ => .int i t
  | _, _, .str x t, _ => .str x t
  | _, _, .bytes x t, _ => .bytes x t
  | _, _, .tuple hx r, hn => .tuple (k _ hx (fun z => absurd (Value.type.inj z) (by decide))) (DatAll.butC k r (by simpa [noL] using hn))
  | _, _, .list _ _, hn => by simp [noL] at hn
theorem DatAll.butC {a b : Led} (k : ButC a b) : ∀ {vs : List Value} {ds : List Dat}, DatAll a vs ds → noLs ds = true → DatAll b vs ds
  | _, _, .nil, _ => .nil
  | _, _, .cons x r, hn => .cons (DatIn.butC k x (by simp [noLs] at hn; exact hn.1)) (DatAll.butC k r (by simp [noLs] at hn; exact hn.2))
end
theorem but_at {D : Addr} {a b : Led} (h : But D a b) {q : Addr × Obj} (hq : q ∈ a) (ne : q.1 ≠ D) : q ∈ b := h q hq ne
theorem butC_at {a b : Led} (h : ButC a b) {q : Addr × Obj} (ne : q.2.cls ≠ .type "list") (hq : q ∈ a) : q ∈ b := h q hq ne
theorem tup_nl {vs : List Value} {n : Nat} : (tupO vs n).cls ≠ .type "list" := fun z => absurd (Value.type.inj z) (by decide)
theorem ne_lt {D : Addr} {a : Led} (h : ∀ p ∈ a, p.1 < D) {q : Addr × Obj} (hq : q ∈ a) : q.1 ≠ D := Nat.ne_of_lt (h q hq)
theorem ne_all {D : Addr} {a : Led} (h : AllLt D a) {q : Addr × Obj} (hq : q ∈ a) : q.1 ≠ D := Nat.ne_of_lt (allLt_at h q hq)
theorem len_pos {tds : Tds} {i : Nat} {td : PySem.Str × PySem.Str} (h : tds[i]? = some td) : 0 < tds.length := by
  have := (List.getElem?_eq_some_iff.mp h).1
  omega
end Mine
end

section
open PySem PySem.W PyProof.Rows
set_option maxRecDepth 100000
namespace Mine
theorem reg_Rf1_0 : True := by
  (k_with "nt on" => ((fail_if_success walk_at "off_Rf1"); (skip)))
  (k_with "k_mem" => first | ((show _ ∈ _); ktr_member) | exact List.Mem.head _ | (refine' List.mem_cons_of_mem _ ?_; k_mem) | (refine sub_at (by assumption) ?_; k_mem) | (refine keep_at (by assumption) (by first | rfl | decide +kernel) ?_; k_mem) | (refine butC_at (by assumption) tup_nl ?_; k_mem))
  (k_with "Keep" => (intro q9 hq9 hi9; repeat' (first | exact hq9 | refine sub_at (by assumption) ?_ | refine keep_at (by assumption) hi9 ?_ | refine List.mem_cons_of_mem _ ?_ | refine but_at (by assumption) ?_ ?_ | refine ne_lt (by assumption) ?_ | refine ne_all (by first | assumption | exact And.right (by assumption)) ?_)))
  (k_with "got more" => ((fail_if_success walk_at "off_Rf1"); (intro hv'; (rcases hv' with ⟨hb', ⟨t', hv'⟩, hR', hK'⟩ | ⟨ha', hb', ⟨t', hv'⟩, hR', hK'⟩ | ⟨ha', hb', ⟨t', hv'⟩, hn'⟩ <;> first | exact (no_bool hb' (by assumption)).elim | exact (no_bool (by assumption) ha').elim | exact (no_bool (by assumption) hb').elim | (subst hv'; subst hn') | (subst hv')))))
  (k_with "call builtin:list.append" => ((fail_if_success walk_at "off_Rf1"); (k_here; (with_reducible show wpAny _ _ (call (Value.builtin _) [Value.ref _, _]) _ _ _); (rename News _ _ _ _ => lN'); k_dflt (refine' append_led ?k1 ?k2 ?k3 ?k4 ?_; (case k1 => k_asm); (case k2 => exact lN'); (case k3 => k_mem); (case k4 => first | exact Nat.le_of_ble_eq_true rfl | assumption | (simp only [List.size_toArray]; omega)); k_whole); intro h' n' F' N' hm' hb' ho' hc'; (try (k_dflt (have hR' := RS.but lN' (by walk_at "RS") ho' (by first | assumption | exact len_pos (by assumption)) (by first | exact .inl rfl | assumption | exact .inr ⟨_, _, _, rfl, by k_mem⟩) hb'))))))
  (k_with "does" => ((fail_if_success walk_at "off_Rf1"); first | with_reducible exact one_of_does _ _ _ _ _ _ (by walk_at "RS")))
  (k_with "does" => ((fail_if_success walk_at "off_Rf1"); first | with_reducible exact name_does _ _ _ _ _ _ (by walk_at "RS") (by assumption) (by assumption) (by assumption)))
  (k_with "does" => first | with_reducible exact is_sign_does _ _ _ _ _ _ _ _ _ (by walk_at "RS") (by first | with_reducible assumption | decide | omega) | with_reducible exact is_sign_does0 _ _ _ _ _ _ _ (by walk_at "RS"))
  (k_with "does" => ((fail_if_success walk_at "off_Rf1"); first | with_reducible exact is_part_none _ _ _ _ _ (by walk_at "RS") (by assumption)))
  trivial
set_option maxHeartbeats 8000000 in
theorem ref_name (w : World) (r : Addr) (news : Led) (tds : Tds) (p : Nat) (hR : RS news r tds p) (ve : Value) (hlen : Short tds) (td : PySem.Str × PySem.Str) (htd : tds[p]? = some td) (hn : nameAt tds p = true) (ho : tokIs tds (p + 1) "word" ⟨#[79, 70]⟩ = false) (hi : tokIs tds (p + 1) "word" ⟨#[73, 78]⟩ = false) (hs : tokIs tds (p + 1) "sign" "(" = false) :
    Does w 50 [.ref r, ve] 180 2000 news (fun v news' => DatIn news' v (.tuple [.str "ref", .str td.2, .tuple [], .tuple [], .none]) ∧ RS news' r tds (p + 1) ∧ Keep news news') (fun _ _ => False) := by
  refine RS.elim hR fun rd tl e t nv n h1 h2 => ?_
  unfold Does
  k_fill
  intro _ dp un gd cn cs a ccd cl outer A₀ base h₀ L m mg mb mean s Q E B F X N T hk hd hu hret herr
  have hb : Binds w ob50 [.ref r, ve] [("reader", .ref r), ("read_expr", ve)] := .plain rfl
  refine wpAny_call ?_
  k_dflt ktr_enter
  k_steps
  exact hret _ _ _ _ (by k_asm) (by k_asm) ⟨.tuple (by k_mem) (.cons (.str _ _) (.cons (.str _ _) (.cons (.tuple (by k_mem) (.nil)) (.cons (.tuple (by k_mem) .nil) (.cons .none .nil))))), by walk_at "RS", by walk_at "Keep"⟩
set_option maxHeartbeats 8000000 in
theorem ref_qual (w : World) (r : Addr) (news : Led) (tds : Tds) (p : Nat) (hR : RS news r tds p) (ve : Value) (hlen : Short tds) (td tc : PySem.Str × PySem.Str) (htd : tds[p]? = some td) (hn : nameAt tds p = true) (hoi : tokIs tds (p + 1) "word" ⟨#[79, 70]⟩ = true ∨ (tokIs tds (p + 1) "word" ⟨#[79, 70]⟩ = false ∧ tokIs tds (p + 1) "word" ⟨#[73, 78]⟩ = true)) (htc : tds[p + 2]? = some tc) (hnc : nameAt tds (p + 2) = true) (ho : tokIs tds (p + 3) "word" ⟨#[79, 70]⟩ = false) (hi : tokIs tds (p + 3) "word" ⟨#[73, 78]⟩ = false) (hs : tokIs tds (p + 3) "sign" "(" = false) :
    Does w 50 [.ref r, ve] 180 2000 news (fun v news' => DatIn news' v (.tuple [.str "ref", .str td.2, .tuple [.str tc.2], .tuple [], .none]) ∧ RS news' r tds (p + 3) ∧ Keep news news') (fun _ _ => False) := by
  refine RS.elim hR fun rd tl e t nv n h1 h2 => ?_
  unfold Does
  k_fill
  intro _ dp un gd cn cs a ccd cl outer A₀ base h₀ L m mg mb mean s Q E B F X N T hk hd hu hret herr
  have hb : Binds w ob50 [.ref r, ve] [("reader", .ref r), ("read_expr", ve)] := .plain rfl
  refine wpAny_call ?_
  k_dflt ktr_enter
  rcases hoi with hoi | ⟨hoo, hoi⟩
  k_steps
  all_goals exact hret _ _ _ _ (by k_asm) (by k_asm) ⟨.tuple (by k_mem) (.cons (.str _ _) (.cons (.str _ _) (.cons (.tuple (by k_mem) (.cons (.str _ _) .nil)) (.cons (.tuple (by k_mem) .nil) (.cons .none .nil))))), by walk_at "RS", by walk_at "Keep"⟩
end Mine
theorem off_Rf1 : True := by
  (k_with "off_Rf1" => skip)
  trivial
end

section
open PySem PySem.W PyProof.Rows
set_option maxRecDepth 100000
namespace Mine
theorem reg_Ex6_0 : True := by
  (k_with "nt on" => ((fail_if_success walk_at "off_Ex6"); (skip)))
  (k_with "got more" => ((fail_if_success walk_at "off_Ex6"); (intro hv'; first | (obtain ⟨hp', hR', hK'⟩ := hv'; (first | (obtain ⟨t', hv'⟩ := hp'; subst hv') | (obtain ⟨a', t1', t2', hv', hm'⟩ := hp'; subst hv') | (have hd' : DatIn _ _ _ := hp')); refine RS.elim hR' fun rd' tl' e'' t'' nv' nn'' h1' h2' => ?_) | (rcases hv' with ⟨hf', hv', hn'⟩ | ⟨a', nm', t1', t2', hf', hv', hm', hR', hK'⟩ <;> first | exact (no_fig hf' (by assumption)).elim | exact (no_fig' hf' (by assumption)).elim | (subst hv'; subst hn') | (subst hv'; (first | ((have hc' := fun td h => same_fig (td := td) h hf'); clear hf'; (have he' := hc' _ (by assumption)); subst he'; clear hc') | skip); refine RS.elim hR' fun rd' tl' e'' t'' nv' nn'' h1' h2' => ?_)))))
  trivial
theorem notin_led {prog : Program} {w : World} {A : Around} {E : Value → Shared → Prop} {s : Shared} {h₀ : Heap} {L a : Addr} {news : Led} {vs : List Value} {ys : List PySem.Str} {n : Nat} {k : PySem.Str} {t : Tok} {Q : Value → Shared → Prop} (N : News h₀ L s.heap news) (hm : (a, tupO vs n) ∈ news) (hS : StrsAre vs ys) (hno : ys.all (fun y => !(y == k)) = true)
    (h : Q (.bool true) s) : wpAny (model prog w) A (compareOp .NotIn (.str k t) (.ref a)) Q E s := by
  refine SeqAt.notIn_tupleAt (isStrOf k) ⟨_, (N _ hm).1, rfl, _, rfl⟩ (fun y hy => (eq_isStrOf k t hS y (by simpa using hy)).at _ _) ?_
  have : vs.toArray.any (isStrOf k) = false := by
    rw [List.any_toArray, any_isStrOf k hS, List.any_eq_false]
    intro y hy
    have := List.all_eq_true.mp hno y hy
    simpa using this
  rw [this]; exact h
theorem reg_Ex6_1 : True := by
  (k_with "compareOp NotIn str ref" => ((fail_if_success walk_at "off_Ex6"); (k_here; k_dflt (refine' notin_led ?k1 ?k2 ?k3 ?k4 ?_; (case k1 => k_asm); (case k2 => k_mem); (case k3 => assumption); (case k4 => assumption); k_whole))))
  (k_with "does" => first | with_reducible exact peek_does _ _ _ _ _ _ _ (by walk_at "RS") (by first | with_reducible assumption | decide | omega) | with_reducible exact peek_does0 _ _ _ _ _ (by walk_at "RS"))
  trivial
set_option maxHeartbeats 8000000 in
theorem sign_among_no (w : World) (r : Addr) (news : Led) (tds : Tds) (p : Nat) (sv : Value) (hR : RS news r tds p) (td : PySem.Str × PySem.Str) (htd : tds[p]? = some td) (hk : (td.1 != ("sign" : PySem.Str)) = true) :
    Does w 195 [.ref r, sv] 60 500 news (fun v news' => news = news' ∧ ∃ t, v = .str "" t) (fun _ _ => False) := by
  refine RS.elim hR fun rd tl e t nv n h1 h2 => ?_
  unfold Does
  k_fill
  intro _ dp un gd cn cs a ccd cl outer A₀ base h₀ L m mg mb mean s Q E B F X N T hk hd hu hret herr
  have hb : Binds w ob195 [.ref r, sv] [("reader", .ref r), ("signs", sv)] := .plain rfl
  refine wpAny_call ?_
  k_dflt ktr_enter
  k_steps
  exact hret _ _ _ _ (by k_asm) (by k_asm) ⟨rfl, _, rfl⟩
set_option maxHeartbeats 8000000 in
theorem sign_among_2 (w : World) (r : Addr) (news : Led) (tds : Tds) (p : Nat) (sa : Addr) (vs : List Value) (ys : List PySem.Str) (sn : Nat) (ha : (sa, tupO vs sn) ∈ news) (hS : StrsAre vs ys) (hno : ys.all (fun y => !(y == (")" : PySem.Str))) = true) (hR : RS news r tds p) (htd : tds[p]? = some (tk_ "sign" ")")) :
    Does w 195 [.ref r, .ref sa] 60 500 news (fun v news' => news = news' ∧ ∃ t, v = .str "" t) (fun _ _ => False) := by
  refine RS.elim hR fun rd tl e t nv n h1 h2 => ?_
  unfold Does
  k_fill
  intro _ dp un gd cn cs a ccd cl outer A₀ base h₀ L m mg mb mean s Q E B F X N T hk hd hu hret herr
  have hb : Binds w ob195 [.ref r, .ref sa] [("reader", .ref r), ("signs", .ref sa)] := .plain rfl
  refine wpAny_call ?_
  k_dflt ktr_enter
  k_steps
  exact hret _ _ _ _ (by k_asm) (by k_asm) ⟨rfl, _, rfl⟩
end Mine
theorem off_Ex6 : True := by
  (k_with "off_Ex6" => skip)
  trivial
end

section
open PySem PySem.W PyProof.Rows
set_option maxRecDepth 100000
namespace Mine
def Tb (news : Led) : Prop := (232, tabObj #[]) ∈ news ∨ ∃ c, (232, tabObj #[rawInt 174, rawInt 36, .ref c]) ∈ news
def TabOnly (a b : Led) : Prop := ∀ q ∈ a, q.2.cls ≠ .none → q ∈ b
def KeepT (a b : Led) : Prop := ∀ q ∈ a, isRd q.2 = false → q.2.cls ≠ .none → q ∈ b
theorem Keep.T {a b : Led} (k : Keep a b) : KeepT a b := fun q h i _ => k q h i
theorem KeepT.trans {a b c : Led} (x : KeepT a b) (y : KeepT b c) : KeepT a c := fun q h i n => y q (x q h i n) i n
theorem TabOnly.T {a b : Led} (k : TabOnly a b) : KeepT a b := fun q h _ n => k q h n
theorem Tb.keep {a b : Led} (h : Tb a) (k : Keep a b) : Tb b := h.elim (fun x => .inl (k _ x rfl)) fun ⟨c, x⟩ => .inr ⟨c, k _ x rfl⟩
theorem Tb.sub {a b : Led} (h : Tb a) (k : ∀ q ∈ a, q ∈ b) : Tb b := h.elim (fun x => .inl (k _ x)) fun ⟨c, x⟩ => .inr ⟨c, k _ x⟩
theorem Tb.butC {a b : Led} (h : Tb a) (k : ButC a b) : Tb b := h.elim (fun x => .inl (k _ x (fun z => nomatch z))) fun ⟨c, x⟩ => .inr ⟨c, k _ x (fun z => nomatch z)⟩
theorem Tb.cons {a : Led} {o : Addr × Obj} (h : Tb a) : Tb (o :: a) := h.sub fun _ => List.mem_cons_of_mem _
theorem Tb.app {a b : Led} (h : Tb a) : Tb (b ++ a) := h.sub fun _ => List.mem_append_right _
theorem TokAt.tab {news news' : Led} {x : Addr} {i : Nat} {td : PySem.Str × PySem.Str} (h : TokAt news x i td) (k : TabOnly news news') : TokAt news' x i td := by
  obtain ⟨dx, ta, t1, t2, tn, e, t, n, a, b, c⟩ := h
  exact ⟨dx, ta, t1, t2, tn, e, t, n, k _ a (fun z => nomatch z), k _ b (fun z => nomatch z), k _ c (fun z => nomatch z)⟩
theorem RS.tab {news news' : Led} {r : Addr} {tds : Tds} {p : Nat} (h : RS news r tds p) (k : TabOnly news news') : RS news' r tds p := by
  obtain ⟨rd, tl, toks, e, t, nv, n, ln, h1, h2, h3, hl, hz, ht⟩ := h
  exact ⟨rd, tl, toks, e, t, nv, n, ln, k _ h1 (fun z => nomatch z), k _ h2 (fun z => nomatch z), k _ h3 (fun z => nomatch z), hl, hz, fun i td hi => let ⟨x, a, b⟩ := ht i td hi; ⟨x, a, b.tab k⟩⟩
mutual
theorem DatIn.keepT {a b : Led} (k : KeepT a b) : ∀ {v : Value} {d : Dat}, DatIn a v d → DatIn b v d
  | _, _, .none => .none
  | _, _, .bool x => .bool x
  | _, _, .int i t => .int i t
  | _, _, .str x t => .str x t
  | _, _, .bytes x t => .bytes x t
  | _, _, .tuple hm r => .tuple (k _ hm rfl (fun z => nomatch z)) (DatAll.keepT k r)
  | _, _, .list hm r => .list (k _ hm rfl (fun z => nomatch z)) (DatAll.keepT k r)
theorem DatAll.keepT {a b : Led} (k : KeepT a b) : ∀ {vs : List Value} {ds : List Dat}, DatAll a vs ds → DatAll b vs ds
  | _, _, .nil => .nil
  | _, _, .cons h r => .cons (DatIn.keepT k h) (DatAll.keepT k r)
end
theorem keepT_at {a b : Led} (h : KeepT a b) {q : Addr × Obj} (hi : isRd q.2 = false) (hn : q.2.cls ≠ .none) (hq : q ∈ a) : q ∈ b := h q hq hi hn
theorem tab_at {a b : Led} (h : TabOnly a b) {q : Addr × Obj} (hn : q.2.cls ≠ .none) (hq : q ∈ a) : q ∈ b := h q hq hn
theorem code236 {w : World} {h : Heap} (X : (KK w.params).In h) : CodeHd h 236 232 := ⟨ob236 w.params, _, _, _, _, _, _, _, _, X _ _ rfl, rfl, rfl, rfl, rfl, rfl, rfl, rfl, rfl, by decide⟩
theorem lam_led {w : World} {A : Around} {E : Value → Shared → Prop} {s : Shared} {h₀ : Heap} {L a : Addr} {m mg mb : PySem.Str → Option Value} {cn : PySem.Str} {cs : Scope} {cl clos : List (PySem.Str × Addr)} {news : Led} {p : Program} {loose : List PySem.Str} {mean : ExcName → Option Value}
    {name qual : PySem.Str} {params : Arguments} {body : Expr} {scope : Scope} {pos : Pos} {fl : Nat} {Q : Value → Shared → Prop} (F : Fr h₀ L s.heap m) (N : News h₀ L s.heap news) (T : Top p loose mean mg mb h₀) (X : (KK w.params).In h₀) (hT : Tb news) (hp : pos.line = 174 ∧ pos.col = 36)
    (hcl : closureFor scope (envX cn cs L a (.ref 236) cl) = pure clos)
    (h : ∀ f h' news' tk, Fr h₀ L h' m → News h₀ L h' news' → Tb news' → TabOnly news news' → Q (.ref f) { s with heap := h', toks := tk }) :
    wpAny (model pw w) A (makeFunction name qual params (.expr body) scope (envX cn cs L a (.ref 236) cl) [] [] [] pos fl) Q E s := by
  rcases hT with hm | ⟨c, hm⟩
  · have N2 : News h₀ L s.heap ((232, tabObj #[]) :: news.filter (fun q => q.1 != 232)) := by
      intro q hq
      rcases List.mem_cons.mp hq with rfl | hq
      · exact N _ hm
      · exact N q ((List.mem_filter.mp hq).1)
    refine kla_nest F N2 T (code236 X) rfl (UpdF.head ?_) trivial rfl hcl fun f c' oc vs t ctv h' tk F' N' _ _ _ _ => h f h' _ tk F' N' ?_ ?_
    · intro q hq
      have := (List.mem_filter.mp hq).2
      simpa using this
    · refine .inr ⟨c', .tail _ (.tail _ ?_)⟩
      have e : (#[] ++ #[rawInt pos.line, rawInt pos.col, .ref c'] : Array Value) = #[rawInt 174, rawInt 36, .ref c'] := by rw [hp.1, hp.2]; rfl
      rw [e]
      exact .head _
    · intro q hq hn
      refine .tail _ (.tail _ (.tail _ (List.mem_filter.mpr ⟨hq, ?_⟩)))
      have : q.1 ≠ 232 := by
        intro z
        have := Option.some.inj ((N q hq).1.symm.trans (z ▸ (N _ hm).1))
        rw [this] at hn
        exact hn rfl
      simpa using this
  · refine kla_hit F N T (code236 X) rfl hm trivial (c' := c) ?_ hcl fun f ctv h' tk F' N' _ => h f h' _ tk F' N' (.inr ⟨c, .tail _ hm⟩) fun q hq _ => .tail _ hq
    show (if (174 : Int) == pos.line && (36 : Int) == pos.col then some (Value.ref c) else codeAmong pos []) = _
    rw [hp.1, hp.2]
    rfl
end Mine
end

section
open PySem PySem.W PyProof.Rows
set_option maxRecDepth 100000
namespace Mine
theorem reg_Nx1_0 : True := by
  (k_with "nt on" => ((fail_if_success walk_at "off_Nx1"); (skip)))
  (k_with "k_mem" => first | ((show _ ∈ _); ktr_member) | exact List.Mem.head _ | (refine' List.mem_cons_of_mem _ ?_; k_mem) | (refine sub_at (by assumption) ?_; k_mem) | (refine keep_at (by assumption) (by first | rfl | decide +kernel) ?_; k_mem) | (refine keepT_at (by assumption) rfl (fun z => nomatch z) ?_; k_mem) | (refine tab_at (by assumption) (fun z => nomatch z) ?_; k_mem) | (refine butC_at (by assumption) tup_nl ?_; k_mem))
  (k_with "enterC" => ((fail_if_success walk_at "off_Nx1"); (refine' code_defC ?k1 ?k2 ?k3 ?k4 ?k5 ?kA ?kF ?kK ?k6 ?k7 ?k8 ?k9 ?kB ?kD ?_ ?c2 ?c3 ?c4; (case kA => exact rfl); (case kF => exact rfl); (case kK => assumption); (case k1 => k_asm); (case k2 => k_asm); (case k3 => k_asm); (case k4 => k_asm); (case k5 => k_asm); (case k6 => k_is); (case k7 => k_is); (case k8 => walk_at "room0"); (case k9 => (rename Binds _ _ _ _ => hbX; exact hbX _ (by k_in))); (case kB => exact rfl); (case kD => decide +kernel); (case c2 => exact rfl); (case c3 => exact rfl); (case c4 => exact rfl); k_whole; intro g' L' h' tk' cells' FG' F' N' Y' B' X' T' l1; (try k_lt l1); k_cells Y'; (try simp only [List.cons_append, List.nil_append] at N'); (try dsimp only); (try walk_at "fold"))))
  (k_with "Tb" => first | assumption | (refine Tb.keep ?_ (by assumption); walk_at "Tb") | (refine Tb.cons ?_; walk_at "Tb") | (refine Tb.sub ?_ (by assumption); walk_at "Tb") | (refine Tb.butC ?_ (by assumption); walk_at "Tb"))
  (k_with "KeepT" => (intro q9 hq9 hi9 hn9; repeat' (first | exact hq9 | refine sub_at (by assumption) ?_ | refine keep_at (by assumption) hi9 ?_ | refine keepT_at (by assumption) hi9 hn9 ?_ | refine tab_at (by assumption) hn9 ?_ | refine List.mem_cons_of_mem _ ?_ | refine but_at (by assumption) ?_ ?_ | refine ne_lt (by assumption) ?_ | refine ne_all (by first | assumption | exact And.right (by assumption)) ?_)))
  (k_with "Dat" => ((fail_if_success walk_at "off_Nx1"); first | assumption | (refine DatIn.mono (fun _ h9 => List.mem_cons_of_mem _ h9) ?_; walk_at "Dat")))
  (k_with "eval Lambda" => ((fail_if_success walk_at "off_Nx1"); (k_here; k_dflt (refine' kla_eval ?d0 ?_; (case d0 => exact rfl)); k_dflt (refine' lam_led ?F ?N ?T ?X ?hT ?hp ?hcl ?_; (case F => k_asm); (case N => k_asm); (case T => k_asm); (case X => k_asm); (case hT => walk_at "Tb"); (case hp => exact ⟨rfl, rfl⟩); (case hcl => exact rfl); k_whole); intro f' h' n' tk' F' N' hT' ho'; (have hR' := RS.tab (by walk_at "RS") ho'))))
  (k_with "got more" => (intro hv'; first | (obtain ⟨hp', hR', hK', hT'⟩ := hv'; (have hd' : DatIn _ _ _ := hp')) | (obtain ⟨hp', hR', hK'⟩ := hv'; (first | (obtain ⟨t', hv'⟩ := hp'; subst hv') | (obtain ⟨a', t1', t2', hv', hm'⟩ := hp'; subst hv') | (have hd' : DatIn _ _ _ := hp'))) | (rcases hv' with ⟨hf', hv', hn'⟩ | ⟨a', nm', t1', t2', hf', hv', hm', hR', hK'⟩ <;> first | exact (no_fig hf' (by assumption)).elim | exact (no_fig' hf' (by assumption)).elim | (subst hv'; subst hn') | (subst hv'; (first | ((have hc' := fun td h => same_fig (td := td) h hf'); clear hf'; (have he' := hc' _ (by assumption)); subst he'; clear hc') | skip)))))
  (k_with "does" => ((fail_if_success walk_at "off_Nx1"); first | with_reducible exact sign_among_no _ _ _ _ _ _ (by walk_at "RS") _ (by assumption) (by first | assumption | decide +kernel)))
  (k_with "does" => ((fail_if_success walk_at "off_Nx1"); first | with_reducible exact sign_among_2 _ _ _ _ _ _ _ _ _ (by k_dflt k_mem) (by k_dflt (repeat constructor)) (by decide +kernel) (by walk_at "RS") (by assumption)))
  (k_with "does" => first | with_reducible exact skip_sign_does _ _ _ _ _ _ _ (by walk_at "RS"))
  (k_with "does" => ((fail_if_success walk_at "off_Nx1"); first | with_reducible exact operand_num _ _ _ _ _ (by walk_at "RS") _ _ (by assumption) (by assumption)))
  trivial
set_option maxHeartbeats 8000000 in
theorem primary_num (w : World) (r : Addr) (news : Led) (tds : Tds) (p : Nat) (hR : RS news r tds p) (dd : Int) (dt : Nat) (k : Int) (hN : NumAt tds p k) (hn : isNum tds p = true) (td : PySem.Str × PySem.Str) (htd : tds[p]? = some td) (hns : (td.1 != ("sign" : PySem.Str)) = true) (hpo : tokIs tds p "sign" "(" = false) (hcl : tds[p + 1]? = some (tk_ "sign" ")")) (h0 : 0 ≤ dd) (h1 : dd ≤ 5) (hTb : Tb news) :
    Does w 237 [.ref r, .int dd dt] 190 2200 news (fun v news' => DatIn news' v (.tuple [.str "number", .tuple [.int k, .int 0]]) ∧ RS news' r tds (p + 1) ∧ KeepT news news' ∧ Tb news') (fun _ _ => False) := by
  refine RS.elim hR fun rd tl e t nv n h1' h2' => ?_
  unfold Does
  k_fill
  intro _ dp un gd cn cs a ccd cl outer A₀ base h₀ L m mg mb mean s Q E B F X N T hk hd hu hret herr
  have hb : Binds w ob237 [.ref r, .int dd dt] [("reader", .ref r), ("depth", .int dd dt)] := .plain rfl
  refine wpAny_call ?_
  k_dflt (walk_at "enterC")
  k_steps
  exact hret _ _ _ _ (by k_asm) (by k_asm) ⟨by walk_at "Dat", by walk_at "RS", by walk_at "KeepT", by walk_at "Tb"⟩
end Mine
theorem off_Nx1 : True := by
  (k_with "off_Nx1" => skip)
  trivial
end

section
open PySem PySem.W PyProof.Rows
set_option maxRecDepth 100000
namespace Mine
theorem reg_Nx2_0 : True := by
  (k_with "nt on" => ((fail_if_success walk_at "off_Nx2"); (skip)))
  (k_with "Dat" => ((fail_if_success walk_at "off_Nx2"); first | assumption | (refine DatIn.mono (fun _ h9 => List.mem_cons_of_mem _ h9) ?_; walk_at "Dat")))
  (k_with "does" => ((fail_if_success walk_at "off_Nx2"); first | with_reducible exact sign_among_no _ _ _ _ _ _ (by walk_at "RS") _ (by assumption) (by first | assumption | decide +kernel)))
  (k_with "does" => ((fail_if_success walk_at "off_Nx2"); first | with_reducible exact sign_among_2 _ _ _ _ _ _ _ _ _ (by k_dflt k_mem) (by k_dflt (repeat constructor)) (by decide +kernel) (by walk_at "RS") (by assumption)))
  (k_with "does" => first | with_reducible exact skip_sign_does _ _ _ _ _ _ _ (by walk_at "RS"))
  (k_with "does" => ((fail_if_success walk_at "off_Nx2"); first | with_reducible exact operand_num _ _ _ _ _ (by walk_at "RS") _ _ (by assumption) (by assumption)))
  (k_with "does" => ((fail_if_success walk_at "off_Nx2"); first | with_reducible exact primary_num _ _ _ _ _ (by walk_at "RS") _ _ _ (by assumption) (by assumption) _ (by assumption) (by assumption) (by assumption) (by assumption) (by first | assumption | decide) (by first | assumption | decide) (by walk_at "Tb")))
  trivial
set_option maxHeartbeats 8000000 in
theorem power_num (w : World) (r : Addr) (news : Led) (tds : Tds) (p : Nat) (hR : RS news r tds p) (dd : Int) (dt : Nat) (k : Int) (hN : NumAt tds p k) (hn : isNum tds p = true) (td : PySem.Str × PySem.Str) (htd : tds[p]? = some td) (hns : (td.1 != ("sign" : PySem.Str)) = true) (hpo : tokIs tds p "sign" "(" = false) (hcl : tds[p + 1]? = some (tk_ "sign" ")")) (h0 : 0 ≤ dd) (h1 : dd ≤ 5) (hTb : Tb news) :
    Does w 230 [.ref r, .int dd dt] 200 2320 news (fun v news' => DatIn news' v (.tuple [.str "number", .tuple [.int k, .int 0]]) ∧ RS news' r tds (p + 1) ∧ KeepT news news' ∧ Tb news') (fun _ _ => False) := by
  refine RS.elim hR fun rd tl e t nv n h1' h2' => ?_
  unfold Does
  k_fill
  intro _ dp un gd cn cs a ccd cl outer A₀ base h₀ L m mg mb mean s Q E B F X N T hk hd hu hret herr
  have hb : Binds w ob230 [.ref r, .int dd dt] [("reader", .ref r), ("depth", .int dd dt)] := .plain rfl
  refine wpAny_call ?_
  k_dflt ktr_enter
  k_steps
  exact hret _ _ _ _ (by k_asm) (by k_asm) ⟨by walk_at "Dat", by walk_at "RS", by walk_at "KeepT", by walk_at "Tb"⟩
theorem reg_Nx2_1 : True := by
  (k_with "does" => ((fail_if_success walk_at "off_Nx2"); first | with_reducible exact power_num _ _ _ _ _ (by walk_at "RS") _ _ _ (by assumption) (by assumption) _ (by assumption) (by assumption) (by assumption) (by assumption) (by first | assumption | decide) (by first | assumption | decide) (by walk_at "Tb")))
  trivial
set_option maxHeartbeats 8000000 in
theorem factor_num (w : World) (r : Addr) (news : Led) (tds : Tds) (p : Nat) (hR : RS news r tds p) (dd : Int) (dt : Nat) (k : Int) (hN : NumAt tds p k) (hn : isNum tds p = true) (td : PySem.Str × PySem.Str) (htd : tds[p]? = some td) (hns : (td.1 != ("sign" : PySem.Str)) = true) (hpo : tokIs tds p "sign" "(" = false) (hcl : tds[p + 1]? = some (tk_ "sign" ")")) (h0 : 0 ≤ dd) (h1 : dd ≤ 5) (hTb : Tb news) :
    Does w 216 [.ref r, .int dd dt] 210 2440 news (fun v news' => DatIn news' v (.tuple [.str "number", .tuple [.int k, .int 0]]) ∧ RS news' r tds (p + 1) ∧ KeepT news news' ∧ Tb news') (fun _ _ => False) := by
  refine RS.elim hR fun rd tl e t nv n h1' h2' => ?_
  unfold Does
  k_fill
  intro _ dp un gd cn cs a ccd cl outer A₀ base h₀ L m mg mb mean s Q E B F X N T hk hd hu hret herr
  have hb : Binds w ob216 [.ref r, .int dd dt] [("reader", .ref r), ("depth", .int dd dt)] := .plain rfl
  refine wpAny_call ?_
  k_dflt ktr_enter
  k_steps
  exact hret _ _ _ _ (by k_asm) (by k_asm) ⟨by walk_at "Dat", by walk_at "RS", by walk_at "KeepT", by walk_at "Tb"⟩
theorem reg_Nx2_2 : True := by
  (k_with "does" => ((fail_if_success walk_at "off_Nx2"); first | with_reducible exact factor_num _ _ _ _ _ (by walk_at "RS") _ _ _ (by assumption) (by assumption) _ (by assumption) (by assumption) (by assumption) (by assumption) (by first | assumption | decide) (by first | assumption | decide) (by walk_at "Tb")))
  trivial
set_option maxHeartbeats 8000000 in
theorem product_num (w : World) (r : Addr) (news : Led) (tds : Tds) (p : Nat) (hR : RS news r tds p) (dd : Int) (dt : Nat) (k : Int) (hN : NumAt tds p k) (hn : isNum tds p = true) (td : PySem.Str × PySem.Str) (htd : tds[p]? = some td) (hns : (td.1 != ("sign" : PySem.Str)) = true) (hpo : tokIs tds p "sign" "(" = false) (hcl : tds[p + 1]? = some (tk_ "sign" ")")) (h0 : 0 ≤ dd) (h1 : dd ≤ 5) (hTb : Tb news) :
    Does w 209 [.ref r, .int dd dt] 220 2560 news (fun v news' => DatIn news' v (.tuple [.str "number", .tuple [.int k, .int 0]]) ∧ RS news' r tds (p + 1) ∧ KeepT news news' ∧ Tb news') (fun _ _ => False) := by
  refine RS.elim hR fun rd tl e t nv n h1' h2' => ?_
  unfold Does
  k_fill
  intro _ dp un gd cn cs a ccd cl outer A₀ base h₀ L m mg mb mean s Q E B F X N T hk hd hu hret herr
  have hb : Binds w ob209 [.ref r, .int dd dt] [("reader", .ref r), ("depth", .int dd dt)] := .plain rfl
  refine wpAny_call ?_
  k_dflt ktr_enter
  k_steps
  exact hret _ _ _ _ (by k_asm) (by k_asm) ⟨by walk_at "Dat", by walk_at "RS", by walk_at "KeepT", by walk_at "Tb"⟩
theorem reg_Nx2_3 : True := by
  (k_with "does" => ((fail_if_success walk_at "off_Nx2"); first | with_reducible exact product_num _ _ _ _ _ (by walk_at "RS") _ _ _ (by assumption) (by assumption) _ (by assumption) (by assumption) (by assumption) (by assumption) (by first | assumption | decide) (by first | assumption | decide) (by walk_at "Tb")))
  trivial
set_option maxHeartbeats 8000000 in
theorem sum_num (w : World) (r : Addr) (news : Led) (tds : Tds) (p : Nat) (hR : RS news r tds p) (dd : Int) (dt : Nat) (k : Int) (hN : NumAt tds p k) (hn : isNum tds p = true) (td : PySem.Str × PySem.Str) (htd : tds[p]? = some td) (hns : (td.1 != ("sign" : PySem.Str)) = true) (hpo : tokIs tds p "sign" "(" = false) (hcl : tds[p + 1]? = some (tk_ "sign" ")")) (h0 : 0 ≤ dd) (h1 : dd ≤ 5) (hTb : Tb news) :
    Does w 202 [.ref r, .int dd dt] 230 2680 news (fun v news' => DatIn news' v (.tuple [.str "number", .tuple [.int k, .int 0]]) ∧ RS news' r tds (p + 1) ∧ KeepT news news' ∧ Tb news') (fun _ _ => False) := by
  refine RS.elim hR fun rd tl e t nv n h1' h2' => ?_
  unfold Does
  k_fill
  intro _ dp un gd cn cs a ccd cl outer A₀ base h₀ L m mg mb mean s Q E B F X N T hk hd hu hret herr
  have hb : Binds w ob202 [.ref r, .int dd dt] [("reader", .ref r), ("depth", .int dd dt)] := .plain rfl
  refine wpAny_call ?_
  k_dflt ktr_enter
  k_steps
  exact hret _ _ _ _ (by k_asm) (by k_asm) ⟨by walk_at "Dat", by walk_at "RS", by walk_at "KeepT", by walk_at "Tb"⟩
theorem reg_Nx2_4 : True := by
  (k_with "does" => ((fail_if_success walk_at "off_Nx2"); first | with_reducible exact sum_num _ _ _ _ _ (by walk_at "RS") _ _ _ (by assumption) (by assumption) _ (by assumption) (by assumption) (by assumption) (by assumption) (by first | assumption | decide) (by first | assumption | decide) (by walk_at "Tb")))
  trivial
set_option maxHeartbeats 8000000 in
theorem expr_num (w : World) (r : Addr) (news : Led) (tds : Tds) (p : Nat) (hR : RS news r tds p) (k : Int) (hN : NumAt tds p k) (hn : isNum tds p = true) (td : PySem.Str × PySem.Str) (htd : tds[p]? = some td) (hns : (td.1 != ("sign" : PySem.Str)) = true) (hpo : tokIs tds p "sign" "(" = false) (hcl : tds[p + 1]? = some (tk_ "sign" ")")) (hTb : Tb news) :
    Does w 188 [.ref r] 240 2800 news (fun v news' => DatIn news' v (.tuple [.str "number", .tuple [.int k, .int 0]]) ∧ RS news' r tds (p + 1) ∧ KeepT news news' ∧ Tb news') (fun _ _ => False) := by
  refine RS.elim hR fun rd tl e t nv n h1' h2' => ?_
  unfold Does
  k_fill
  intro _ dp un gd cn cs a ccd cl outer A₀ base h₀ L m mg mb mean s Q E B F X N T hk hd hu hret herr
  have hb : Binds w ob188 [.ref r] [("reader", .ref r)] := .plain rfl
  refine wpAny_call ?_
  k_dflt ktr_enter
  k_steps
  exact hret _ _ _ _ (by k_asm) (by k_asm) ⟨by walk_at "Dat", by walk_at "RS", by walk_at "KeepT", by walk_at "Tb"⟩
end Mine
theorem off_Nx2 : True := by
  (k_with "off_Nx2" => skip)
  trivial
end

section
open PySem PySem.W PyProof.Rows
set_option maxRecDepth 100000
namespace Mine
theorem reg_Rf2_0 : True := by
  (k_with "nt on" => ((fail_if_success walk_at "off_Rf2"); (skip)))
  (k_with "Dat" => ((fail_if_success walk_at "off_Rf2"); first | assumption | (refine DatIn.mono (fun _ h9 => List.mem_cons_of_mem _ h9) ?_; walk_at "Dat") | (refine DatIn.keep (by assumption) ?_; walk_at "Dat") | (refine DatIn.keepT (by assumption) ?_; walk_at "Dat") | (refine DatIn.butC (by assumption) ?_ rfl; walk_at "Dat") | (refine DatIn.mono (by assumption) ?_; walk_at "Dat")))
  (k_with "call builtin:list.append" => ((fail_if_success walk_at "off_Rf2"); (k_here; (with_reducible show wpAny _ _ (call (Value.builtin _) [Value.ref _, _]) _ _ _); (rename News _ _ _ _ => lN'); k_dflt (refine' append_led ?k1 ?k2 ?k3 ?k4 ?_; (case k1 => k_asm); (case k2 => exact lN'); (case k3 => k_mem); (case k4 => first | exact Nat.le_of_ble_eq_true rfl | assumption | (simp only [List.size_toArray]; omega)); k_whole); intro h' n' F' N' hm' hb' ho' hc'; (try (k_dflt (have hR' := RS.but lN' (by walk_at "RS") ho' (by first | assumption | exact len_pos (by assumption)) (by first | exact .inl rfl | assumption | exact .inr ⟨_, _, _, rfl, by k_mem⟩) hb'))))))
  (k_with "does" => ((fail_if_success walk_at "off_Rf2"); first | with_reducible exact need_sign_does _ _ _ _ _ _ _ (by walk_at "RS") (by assumption)))
  (k_with "does" => ((fail_if_success walk_at "off_Rf2"); first | with_reducible exact expr_num _ _ _ _ _ (by walk_at "RS") _ (by assumption) (by assumption) _ (by assumption) (by assumption) (by assumption) (by k_dflt assumption) (by walk_at "Tb")))
  (k_with "does" => first | with_reducible exact skip_sign_does _ _ _ _ _ _ _ (by walk_at "RS"))
  trivial
set_option maxHeartbeats 8000000 in
theorem subs_does (w : World) (r : Addr) (news : Led) (tds : Tds) (p : Nat) (hR : RS news r tds p) (k : Int) (ho : tokIs tds p "sign" "(" = true) (hN : NumAt tds (p + 1) k) (hn : isNum tds (p + 1) = true) (td : PySem.Str × PySem.Str) (htd : tds[p + 1]? = some td) (hns : (td.1 != ("sign" : PySem.Str)) = true) (hpo : tokIs tds (p + 1) "sign" "(" = false) (hcl : tds[p + 2]? = some (tk_ "sign" ")")) (hcs : tokIs tds (p + 2) "sign" ")" = true) (hTb : Tb news) :
    Does w 36 [.ref r, .ref 188] 260 3000 news (fun v news' => DatIn news' v (.tuple [.tuple [.str "number", .tuple [.int k, .int 0]]]) ∧ RS news' r tds (p + 3) ∧ KeepT news news' ∧ Tb news') (fun _ _ => False) := by
  refine RS.elim hR fun rd tl e t nv n h1' h2' => ?_
  unfold Does
  k_fill
  intro _ dp un gd cn cs a ccd cl outer A₀ base h₀ L m mg mb mean s Q E B F X N T hk hd hu hret herr
  have hb : Binds w ob36 [.ref r, .ref 188] [("reader", .ref r), ("read_expr", .ref 188)] := .plain rfl
  refine wpAny_call ?_
  k_dflt ktr_enter
  k_steps
  exact hret _ _ _ _ (by k_asm) (by k_asm) ⟨.tuple (by k_mem) (.cons (by walk_at "Dat") .nil), by walk_at "RS", by walk_at "KeepT", by walk_at "Tb"⟩
end Mine
theorem off_Rf2 : True := by
  (k_with "off_Rf2" => skip)
  trivial
end

section
open PySem PySem.W PyProof.Rows
set_option maxRecDepth 100000
namespace Mine
theorem reg_Rf3_0 : True := by
  (k_with "nt on" => ((fail_if_success walk_at "off_Rf3"); (skip)))
  (k_with "Dat" => ((fail_if_success walk_at "off_Rf3"); first | assumption | (refine DatIn.mono (fun _ h9 => List.mem_cons_of_mem _ h9) ?_; walk_at "Dat") | (refine DatIn.keep (by assumption) ?_; walk_at "Dat") | (refine DatIn.keepT (by assumption) ?_; walk_at "Dat") | (refine DatIn.butC (by assumption) ?_ rfl; walk_at "Dat") | (refine DatIn.mono (by assumption) ?_; walk_at "Dat")))
  (k_with "got more" => ((fail_if_success walk_at "off_Rf3"); (intro hv'; (rcases hv' with ⟨hb', ⟨t', hv'⟩, hR', hK'⟩ | ⟨ha', hb', ⟨t', hv'⟩, hR', hK'⟩ | ⟨ha', hb', ⟨t', hv'⟩, hn'⟩ <;> first | exact (no_bool hb' (by assumption)).elim | exact (no_bool (by assumption) ha').elim | exact (no_bool (by assumption) hb').elim | (subst hv'; subst hn') | (subst hv')))))
  (k_with "call builtin:list.append" => ((fail_if_success walk_at "off_Rf3"); (k_here; (with_reducible show wpAny _ _ (call (Value.builtin _) [Value.ref _, _]) _ _ _); (rename News _ _ _ _ => lN'); k_dflt (refine' append_led ?k1 ?k2 ?k3 ?k4 ?_; (case k1 => k_asm); (case k2 => exact lN'); (case k3 => k_mem); (case k4 => first | exact Nat.le_of_ble_eq_true rfl | assumption | (simp only [List.size_toArray]; omega)); k_whole); intro h' n' F' N' hm' hb' ho' hc'; (try (k_dflt (have hR' := RS.but lN' (by walk_at "RS") ho' (by first | assumption | exact len_pos (by assumption)) (by first | exact .inl rfl | assumption | exact .inr ⟨_, _, _, rfl, by k_mem⟩) hb'))))))
  (k_with "does" => ((fail_if_success walk_at "off_Rf3"); first | with_reducible exact one_of_does _ _ _ _ _ _ (by walk_at "RS")))
  (k_with "does" => ((fail_if_success walk_at "off_Rf3"); first | with_reducible exact name_does _ _ _ _ _ _ (by walk_at "RS") (by assumption) (by assumption) (by assumption)))
  (k_with "does" => first | with_reducible exact is_sign_does _ _ _ _ _ _ _ _ _ (by walk_at "RS") (by first | with_reducible assumption | decide | omega) | with_reducible exact is_sign_does0 _ _ _ _ _ _ _ (by walk_at "RS"))
  (k_with "does" => ((fail_if_success walk_at "off_Rf3"); first | with_reducible exact is_part_sub _ _ _ _ _ _ _ _ (by walk_at "RS") (by assumption) (by assumption) (by assumption) (by assumption) (by assumption) (by assumption) (by assumption) (by assumption) (by assumption)))
  (k_with "does" => ((fail_if_success walk_at "off_Rf3"); first | with_reducible exact is_part_none _ _ _ _ _ (by walk_at "RS") (by assumption)))
  (k_with "does" => ((fail_if_success walk_at "off_Rf3"); first | with_reducible exact subs_does _ _ _ _ _ (by walk_at "RS") _ (by assumption) (by assumption) (by assumption) _ (by assumption) (by assumption) (by assumption) (by assumption) (by assumption) (by walk_at "Tb")))
  trivial
set_option maxHeartbeats 8000000 in
theorem ref_sub (w : World) (r : Addr) (news : Led) (tds : Tds) (p : Nat) (hR : RS news r tds p) (hlen : Short tds) (t0 : PySem.Str × PySem.Str) (ht0 : tds[p]? = some t0) (hnm : nameAt tds p = true) (hof : tokIs tds (p + 1) "word" ⟨#[79, 70]⟩ = false) (hin : tokIs tds (p + 1) "word" ⟨#[73, 78]⟩ = false) (hsg : tokIs tds (p + 1) "sign" "(" = true) (t1 t2 t3 : PySem.Str × PySem.Str) (ht1 : tds[p + 1]? = some t1) (ht2 : tds[p + 2]? = some t2) (ht3 : tds[p + 3]? = some t3) (s1 : tokIs tds (p + 2) "sign" "(" = false) (s2 : tokIs tds (p + 2) "sign" ")" = false) (s3 : tokIs tds (p + 2) "sign" ":" = false) (s4 : tokIs tds (p + 3) "sign" "(" = false) (s5 : tokIs tds (p + 3) "sign" ")" = true) (hnx : tokIs tds (p + 4) "sign" "(" = false) (k : Int) (hN : NumAt tds (p + 2) k) (hn : isNum tds (p + 2) = true) (hns : (t2.1 != ("sign" : PySem.Str)) = true) (hcl : tds[p + 3]? = some (tk_ "sign" ")")) (hTb : Tb news) :
    Does w 50 [.ref r, .ref 188] 280 3300 news (fun v news' => DatIn news' v (.tuple [.str "ref", .str t0.2, .tuple [], .tuple [.tuple [.str "number", .tuple [.int k, .int 0]]], .none]) ∧ RS news' r tds (p + 4) ∧ KeepT news news' ∧ Tb news') (fun _ _ => False) := by
  refine RS.elim hR fun rd tl e t nv n h1' h2' => ?_
  unfold Does
  k_fill
  intro _ dp un gd cn cs a ccd cl outer A₀ base h₀ L m mg mb mean s Q E B F X N T hk hd hu hret herr
  have hb : Binds w ob50 [.ref r, .ref 188] [("reader", .ref r), ("read_expr", .ref 188)] := .plain rfl
  refine wpAny_call ?_
  k_dflt ktr_enter
  k_steps
  exact hret _ _ _ _ (by k_asm) (by k_asm) ⟨.tuple (by k_mem) (.cons (.str _ _) (.cons (.str _ _) (.cons (.tuple (by k_mem) .nil) (.cons (by walk_at "Dat") (.cons .none .nil))))), by walk_at "RS", by walk_at "KeepT", by walk_at "Tb"⟩
end Mine
theorem off_Rf3 : True := by
  (k_with "off_Rf3" => skip)
  trivial
end

section
open PySem PySem.W PyProof.Rows
set_option maxRecDepth 100000
namespace Mine
theorem res_END_CALL : resB "END-CALL" = true := by
  have h1 : ((" " ++ "END-CALL" ++ " " : PySem.Str).cps.toList == [32, 69, 78, 68, 45, 67, 65, 76, 76, 32]) = true := by k_qdec
  have h2 : (infB [32, 69, 78, 68, 45, 67, 65, 76, 76, 32] resv.cps.toList == true) = true := by delta resv strIn; k_qdec
  rw [resB_eq, eq_of_beq h1]; exact eq_of_beq h2
theorem fig_END_CALL : figB "END-CALL" = false := by
  have h1 : ((" " ++ "END-CALL" ++ " " : PySem.Str).cps.toList == [32, 69, 78, 68, 45, 67, 65, 76, 76, 32]) = true := by k_qdec
  have h2 : (infB [32, 69, 78, 68, 45, 67, 65, 76, 76, 32] fwords.cps.toList == false) = true := by decide +kernel
  rw [figB_eq, eq_of_beq h1]; exact eq_of_beq h2
theorem res_ON : resB "ON" = true := by
  have h1 : ((" " ++ "ON" ++ " " : PySem.Str).cps.toList == [32, 79, 78, 32]) = true := by k_qdec
  have h2 : (infB [32, 79, 78, 32] resv.cps.toList == true) = true := by delta resv strIn; k_qdec
  rw [resB_eq, eq_of_beq h1]; exact eq_of_beq h2
theorem fig_ON : figB "ON" = false := by
  have h1 : ((" " ++ "ON" ++ " " : PySem.Str).cps.toList == [32, 79, 78, 32]) = true := by k_qdec
  have h2 : (infB [32, 79, 78, 32] fwords.cps.toList == false) = true := by decide +kernel
  rw [figB_eq, eq_of_beq h1]; exact eq_of_beq h2
theorem res_NOT : resB "NOT" = true := by
  have h1 : ((" " ++ "NOT" ++ " " : PySem.Str).cps.toList == [32, 78, 79, 84, 32]) = true := by k_qdec
  have h2 : (infB [32, 78, 79, 84, 32] resv.cps.toList == true) = true := by delta resv strIn; k_qdec
  rw [resB_eq, eq_of_beq h1]; exact eq_of_beq h2
theorem fig_NOT : figB "NOT" = false := by
  have h1 : ((" " ++ "NOT" ++ " " : PySem.Str).cps.toList == [32, 78, 79, 84, 32]) = true := by k_qdec
  have h2 : (infB [32, 78, 79, 84, 32] fwords.cps.toList == false) = true := by decide +kernel
  rw [figB_eq, eq_of_beq h1]; exact eq_of_beq h2
theorem res_EXCEPTION : resB "EXCEPTION" = true := by
  have h1 : ((" " ++ "EXCEPTION" ++ " " : PySem.Str).cps.toList == [32, 69, 88, 67, 69, 80, 84, 73, 79, 78, 32]) = true := by k_qdec
  have h2 : (infB [32, 69, 88, 67, 69, 80, 84, 73, 79, 78, 32] resv.cps.toList == true) = true := by delta resv strIn; k_qdec
  rw [resB_eq, eq_of_beq h1]; exact eq_of_beq h2
theorem fig_EXCEPTION : figB "EXCEPTION" = false := by
  have h1 : ((" " ++ "EXCEPTION" ++ " " : PySem.Str).cps.toList == [32, 69, 88, 67, 69, 80, 84, 73, 79, 78, 32]) = true := by k_qdec
  have h2 : (infB [32, 69, 88, 67, 69, 80, 84, 73, 79, 78, 32] fwords.cps.toList == false) = true := by decide +kernel
  rw [figB_eq, eq_of_beq h1]; exact eq_of_beq h2
theorem res_OVERFLOW : resB "OVERFLOW" = true := by
  have h1 : ((" " ++ "OVERFLOW" ++ " " : PySem.Str).cps.toList == [32, 79, 86, 69, 82, 70, 76, 79, 87, 32]) = true := by k_qdec
  have h2 : (infB [32, 79, 86, 69, 82, 70, 76, 79, 87, 32] resv.cps.toList == true) = true := by delta resv strIn; k_qdec
  rw [resB_eq, eq_of_beq h1]; exact eq_of_beq h2
theorem fig_OVERFLOW : figB "OVERFLOW" = false := by
  have h1 : ((" " ++ "OVERFLOW" ++ " " : PySem.Str).cps.toList == [32, 79, 86, 69, 82, 70, 76, 79, 87, 32]) = true := by k_qdec
  have h2 : (infB [32, 79, 86, 69, 82, 70, 76, 79, 87, 32] fwords.cps.toList == false) = true := by decide +kernel
  rw [figB_eq, eq_of_beq h1]; exact eq_of_beq h2
theorem res_BY : resB "BY" = true := by
  have h1 : ((" " ++ "BY" ++ " " : PySem.Str).cps.toList == [32, 66, 89, 32]) = true := by k_qdec
  have h2 : (infB [32, 66, 89, 32] resv.cps.toList == true) = true := by delta resv strIn; k_qdec
  rw [resB_eq, eq_of_beq h1]; exact eq_of_beq h2
theorem fig_BY : figB "BY" = false := by
  have h1 : ((" " ++ "BY" ++ " " : PySem.Str).cps.toList == [32, 66, 89, 32]) = true := by k_qdec
  have h2 : (infB [32, 66, 89, 32] fwords.cps.toList == false) = true := by decide +kernel
  rw [figB_eq, eq_of_beq h1]; exact eq_of_beq h2
theorem res_REFERENCE : resB "REFERENCE" = true := by
  have h1 : ((" " ++ "REFERENCE" ++ " " : PySem.Str).cps.toList == [32, 82, 69, 70, 69, 82, 69, 78, 67, 69, 32]) = true := by k_qdec
  have h2 : (infB [32, 82, 69, 70, 69, 82, 69, 78, 67, 69, 32] resv.cps.toList == true) = true := by delta resv strIn; k_qdec
  rw [resB_eq, eq_of_beq h1]; exact eq_of_beq h2
theorem fig_REFERENCE : figB "REFERENCE" = false := by
  have h1 : ((" " ++ "REFERENCE" ++ " " : PySem.Str).cps.toList == [32, 82, 69, 70, 69, 82, 69, 78, 67, 69, 32]) = true := by k_qdec
  have h2 : (infB [32, 82, 69, 70, 69, 82, 69, 78, 67, 69, 32] fwords.cps.toList == false) = true := by decide +kernel
  rw [figB_eq, eq_of_beq h1]; exact eq_of_beq h2
theorem res_CONTENT : resB "CONTENT" = true := by
  have h1 : ((" " ++ "CONTENT" ++ " " : PySem.Str).cps.toList == [32, 67, 79, 78, 84, 69, 78, 84, 32]) = true := by k_qdec
  have h2 : (infB [32, 67, 79, 78, 84, 69, 78, 84, 32] resv.cps.toList == true) = true := by delta resv strIn; k_qdec
  rw [resB_eq, eq_of_beq h1]; exact eq_of_beq h2
theorem fig_CONTENT : figB "CONTENT" = false := by
  have h1 : ((" " ++ "CONTENT" ++ " " : PySem.Str).cps.toList == [32, 67, 79, 78, 84, 69, 78, 84, 32]) = true := by k_qdec
  have h2 : (infB [32, 67, 79, 78, 84, 69, 78, 84, 32] fwords.cps.toList == false) = true := by decide +kernel
  rw [figB_eq, eq_of_beq h1]; exact eq_of_beq h2
theorem fig_ZEROS : figB "ZEROS" = true := by
  have h1 : ((" " ++ "ZEROS" ++ " " : PySem.Str).cps.toList == [32, 90, 69, 82, 79, 83, 32]) = true := by k_qdec
  have h2 : (infB [32, 90, 69, 82, 79, 83, 32] fwords.cps.toList == true) = true := by decide +kernel
  rw [figB_eq, eq_of_beq h1]; exact eq_of_beq h2
theorem fig_ZERO : figB "ZERO" = true := by
  have h1 : ((" " ++ "ZERO" ++ " " : PySem.Str).cps.toList == [32, 90, 69, 82, 79, 32]) = true := by k_qdec
  have h2 : (infB [32, 90, 69, 82, 79, 32] fwords.cps.toList == true) = true := by decide +kernel
  rw [figB_eq, eq_of_beq h1]; exact eq_of_beq h2
theorem fig_ALL : figB "ALL" = true := by
  have h1 : ((" " ++ "ALL" ++ " " : PySem.Str).cps.toList == [32, 65, 76, 76, 32]) = true := by k_qdec
  have h2 : (infB [32, 65, 76, 76, 32] fwords.cps.toList == true) = true := by decide +kernel
  rw [figB_eq, eq_of_beq h1]; exact eq_of_beq h2
end Mine
end

section
open PySem PySem.W PyProof.Rows
set_option maxRecDepth 100000
namespace Mine
theorem reg_Op2_0 : True := by
  (k_with "nt on" => ((fail_if_success walk_at "off_Op2"); (skip)))
  (k_with "k_mem" => first | ((show _ ∈ _); ktr_member) | exact List.Mem.head _ | (refine' List.mem_cons_of_mem _ ?_; k_mem))
  (k_with "k_mem" => first | ((show _ ∈ _); ktr_member) | exact List.Mem.head _ | (refine' List.mem_cons_of_mem _ ?_; k_mem) | (refine sub_at (by assumption) ?_; k_mem) | (refine keep_at (by assumption) (by first | rfl | decide +kernel) ?_; k_mem) | (refine butC_at (by assumption) tup_nl ?_; k_mem))
  (k_with "got more" => (intro hv'; obtain ⟨hp', hs'⟩ := hv'; (first | (obtain ⟨t', hv'⟩ := hp'; subst hv') | (obtain ⟨a', t1', t2', hv', hm'⟩ := hp'; subst hv')); (try (have hR' := RS.sub (by walk_at "RS") hs'))))
  (k_with "got more" => ((fail_if_success walk_at "off_Op2"); (intro hv'; try (rcases hv' with ⟨hf', hv', hn'⟩ | ⟨a', nm', t1', t2', hf', hv', hm', hR', hK'⟩ <;> first | exact (no_fig hf' (by assumption)).elim | exact (no_fig' hf' (by assumption)).elim | (subst hv'; subst hn') | (subst hv'; (first | ((have hc' := fun td h => same_fig (td := td) h hf'); clear hf'; (have he' := hc' _ (by assumption)); subst he'; clear hc') | skip))))))
  (k_with "does" => first | with_reducible exact is_number_does _ _ _ _ _ (by walk_at "RS"))
  (k_with "does" => first | with_reducible exact is_kind_does _ _ _ _ _ _ _ _ _ (by walk_at "RS") (by first | with_reducible assumption | decide | omega) | with_reducible exact is_kind_does0 _ _ _ _ _ _ _ (by walk_at "RS"))
  (k_with "does" => first | with_reducible exact skip_does _ _ _ _ _ _ _ (by walk_at "RS") (by first | assumption | exact ⟨by decide +kernel, by decide⟩))
  (k_with "does" => ((fail_if_success walk_at "off_Op2"); first | with_reducible exact read_figure_does _ _ _ _ _ (by walk_at "RS")))
  (k_with "does" => ((fail_if_success walk_at "off_Op2"); with_reducible assumption))
  trivial
set_option maxHeartbeats 8000000 in
theorem operand_ref (w : World) (r : Addr) (news : Led) (tds : Tds) (p : Nat) (hR : RS news r tds p) (ve : Value) (Post : Value → Led → Prop) (hn : isNum tds p = false) (hk : kindAt tds p "literal" = false) (hA : tokIs tds p "word" "ALL" = false) (hF : figureAt tds p = none) (hD : Does w 50 [.ref r, ve] 280 3300 news Post (fun _ _ => False)) :
    Does w 71 [.ref r, ve] 300 3600 news Post (fun _ _ => False) := by
  refine RS.elim hR fun rd tl e t nv n h1' h2' => ?_
  unfold Does
  k_fill
  intro _ dp un gd cn cs a ccd cl outer A₀ base h₀ L m mg mb mean s Q E B F X N T hk hd hu hret herr
  have hb : Binds w ob71 [.ref r, ve] [("reader", .ref r), ("read_expr", ve)] := .plain rfl
  refine wpAny_call ?_
  k_dflt ktr_enter
  k_steps
  exact hret _ _ _ _ (by k_asm) (by k_asm) (by assumption)
end Mine
theorem off_Op2 : True := by
  (k_with "off_Op2" => skip)
  trivial
end

section
open PySem PySem.W PyProof.Rows
set_option maxRecDepth 100000
namespace Mine
theorem Does.mono {w : World} {f : Addr} {vs : List Value} {d u d' u' : Nat} {news : Led} {P P' : Value → Led → Prop} {Err : Addr → Led → Prop} (H : Does w f vs d u news P Err) (hd : d ≤ d') (hu : u ≤ u') (hP : ∀ v n, P v n → P' v n) : Does w f vs d' u' news P' Err :=
  fun x dp un gd cn cs a ccd cl outer A₀ base h₀ L m mg mb mean s Q E B F X N T hk kd ku hret herr =>
    H x dp un gd cn cs a ccd cl outer A₀ base h₀ L m mg mb mean s Q E B F X N T hk (by omega) (by omega) (fun v n h t f n' p => hret v n h t f n' (hP _ _ p)) herr
theorem isNum_of {tds : Tds} {p : Nat} {k x : PySem.Str} {b : Bool} (h : tds[p]? = some (k, x)) (hk : (k == ("sign" : PySem.Str)) = false) (hb : (k == ("number" : PySem.Str)) = b) : isNum tds p = b := by
  have a : tokIs tds p "sign" "-" = false := tok_kind h hk
  have c : tokIs tds p "sign" "+" = false := tok_kind h hk
  unfold isNum
  rw [a, c]
  exact kind_of h hb
theorem name_of {tds : Tds} {p : Nat} {k x : PySem.Str} {b : Bool} (h : tds[p]? = some (k, x)) (hk : (k == ("word" : PySem.Str)) = true) (hr : resB x = b) : nameAt tds p = !b := by
  unfold nameAt
  rw [h]
  show (k == ("word" : PySem.Str) && !resB x) = !b
  rw [hk, hr]; rfl
theorem figure_of {tds : Tds} {p : Nat} {k x : PySem.Str} {o : Option PySem.Str} (h : tds[p]? = some (k, x)) (hb : (if k == ("word" : PySem.Str) then figNm x else none) = o) : figureAt tds p = o := by
  unfold figureAt
  rw [h]
  exact hb
theorem fig_of {tds : Tds} {p : Nat} {k x : PySem.Str} {b : Bool} (h : tds[p]? = some (k, x)) (hk : (k == ("word" : PySem.Str)) = true) (hr : figB x = b) : figAt tds p = b := by
  unfold figAt
  rw [h]
  show (k == ("word" : PySem.Str) && figB x) = b
  rw [hk, hr]; rfl
inductive Op | A | bOf | bIn | T | n7 | lQ | lSUB | zs | z | allAB
def Op.toks : Op → Tds
  | .A => [tk_ "word" "A"]
  | .bOf => [tk_ "word" "B", tk_ "word" "OF", tk_ "word" "C"]
  | .bIn => [tk_ "word" "B", tk_ "word" "IN", tk_ "word" "C"]
  | .T => [tk_ "word" "T", tk_ "sign" "(", tk_ "number" "2", tk_ "sign" ")"]
  | .n7 => [tk_ "number" "7"]
  | .lQ => [tk_ "literal" "Q"]
  | .lSUB => [tk_ "literal" "SUB"]
  | .zs => [tk_ "word" "ZEROS"]
  | .z => [tk_ "word" "ZERO"]
  | .allAB => [tk_ "word" "ALL", tk_ "literal" "AB"]
def Op.dat : Op → Dat
  | .A => .tuple [.str "ref", .str "A", .tuple [], .tuple [], .none]
  | .bOf => .tuple [.str "ref", .str "B", .tuple [.str "C"], .tuple [], .none]
  | .bIn => .tuple [.str "ref", .str "B", .tuple [.str "C"], .tuple [], .none]
  | .T => .tuple [.str "ref", .str "T", .tuple [], .tuple [.tuple [.str "number", .tuple [.int 2, .int 0]]], .none]
  | .n7 => .tuple [.str "number", .tuple [.int 7, .int 0]]
  | .lQ => .tuple [.str "text", .bytes #[81]]
  | .lSUB => .tuple [.str "text", .bytes #[83, 85, 66]]
  | .zs => .tuple [.str "figure", .str "ZERO"]
  | .z => .tuple [.str "figure", .str "ZERO"]
  | .allAB => .tuple [.str "all", .bytes #[65, 66]]
def Seg (tds : Tds) (p : Nat) (l : Tds) : Prop := ∀ i td, l[i]? = some td → tds[p + i]? = some td
def NextOk (tds : Tds) (q : Nat) : Prop := tokIs tds q "word" ⟨#[79, 70]⟩ = false ∧ tokIs tds q "word" ⟨#[73, 78]⟩ = false ∧ tokIs tds q "sign" "(" = false
def OpPost (r : Addr) (tds : Tds) (news : Led) (p : Nat) (d : Dat) (v : Value) (news' : Led) : Prop := DatIn news' v d ∧ RS news' r tds p ∧ KeepT news news' ∧ Tb news'
theorem OpPost.of {r : Addr} {tds : Tds} {news : Led} {p : Nat} {d : Dat} (hTb : Tb news) (v : Value) (n : Led) (h : DatIn n v d ∧ RS n r tds p ∧ Keep news n) : OpPost r tds news p d v n := ⟨h.1, h.2.1, h.2.2.T, hTb.keep h.2.2⟩
theorem operand_does (w : World) (r : Addr) (news : Led) (tds : Tds) (p : Nat) (hR : RS news r tds p) (hlen : Short tds) (o : Op) (hS : Seg tds p o.toks) (hN : NextOk tds (p + o.toks.length)) (hTb : Tb news) :
    Does w 71 [.ref r, .ref 188] 300 3600 news (OpPost r tds news (p + o.toks.length) o.dat) (fun _ _ => False) := by
  cases o
  case A =>
    have h0 := hS 0 _ rfl
    refine operand_ref w r news tds p hR _ _ (isNum_of h0 (by decide +kernel) (by decide +kernel)) (kind_of h0 (by decide +kernel)) (tok_of h0 (by decide +kernel)) (figure_of h0 (by decide +kernel)) ?_
    exact (ref_name w r news tds p hR (.ref 188) hlen _ h0 (name_of h0 (by decide +kernel) res_A) hN.1 hN.2.1 hN.2.2).mono (by decide) (by decide) (OpPost.of hTb)
  case bOf =>
    have h0 := hS 0 _ rfl
    have h1 := hS 1 _ rfl
    have h2 := hS 2 _ rfl
    refine operand_ref w r news tds p hR _ _ (isNum_of h0 (by decide +kernel) (by decide +kernel)) (kind_of h0 (by decide +kernel)) (tok_of h0 (by decide +kernel)) (figure_of h0 (by decide +kernel)) ?_
    exact (ref_qual w r news tds p hR (.ref 188) hlen _ _ h0 (name_of h0 (by decide +kernel) res_B) (.inl (tok_of h1 (by decide +kernel))) h2 (name_of h2 (by decide +kernel) res_C) hN.1 hN.2.1 hN.2.2).mono (by decide) (by decide) (OpPost.of hTb)
  case bIn =>
    have h0 := hS 0 _ rfl
    have h1 := hS 1 _ rfl
    have h2 := hS 2 _ rfl
    refine operand_ref w r news tds p hR _ _ (isNum_of h0 (by decide +kernel) (by decide +kernel)) (kind_of h0 (by decide +kernel)) (tok_of h0 (by decide +kernel)) (figure_of h0 (by decide +kernel)) ?_
    exact (ref_qual w r news tds p hR (.ref 188) hlen _ _ h0 (name_of h0 (by decide +kernel) res_B) (.inr ⟨tok_of h1 (by decide +kernel), tok_of h1 (by decide +kernel)⟩) h2 (name_of h2 (by decide +kernel) res_C) hN.1 hN.2.1 hN.2.2).mono (by decide) (by decide) (OpPost.of hTb)
  case T =>
    have h0 := hS 0 _ rfl
    have h1 := hS 1 _ rfl
    have h2 := hS 2 _ rfl
    have h3 := hS 3 _ rfl
    refine operand_ref w r news tds p hR _ _ (isNum_of h0 (by decide +kernel) (by decide +kernel)) (kind_of h0 (by decide +kernel)) (tok_of h0 (by decide +kernel)) (figure_of h0 (by decide +kernel)) ?_
    exact (ref_sub w r news tds p hR hlen _ h0 (name_of h0 (by decide +kernel) res_T) (tok_of h1 (by decide +kernel)) (tok_of h1 (by decide +kernel)) (tok_of h1 (by decide +kernel)) _ _ _ h1 h2 h3 (tok_of h2 (by decide +kernel)) (tok_of h2 (by decide +kernel)) (tok_of h2 (by decide +kernel)) (tok_of h3 (by decide +kernel)) (tok_of h3 (by decide +kernel)) hN.2.2 2 (.inr ⟨h2, rfl⟩) (isNum_of h2 (by decide +kernel) (by decide +kernel)) (by decide +kernel) h3 hTb).mono (by decide) (by decide) (fun v n h => h)
  case n7 =>
    have h0 := hS 0 _ rfl
    exact (operand_num w r news tds p hR (.ref 188) 7 (.inl ⟨h0, rfl⟩) (isNum_of h0 (by decide +kernel) (by decide +kernel))).mono (by decide) (by decide) (OpPost.of hTb)
  case lQ =>
    have h0 := hS 0 _ rfl
    exact (operand_lit w r news tds p hR (.ref 188) _ (.inl ⟨h0, rfl⟩) (isNum_of h0 (by decide +kernel) (by decide +kernel)) (kind_of h0 (by decide +kernel))).mono (by decide) (by decide) (OpPost.of hTb)
  case lSUB =>
    have h0 := hS 0 _ rfl
    exact (operand_lit w r news tds p hR (.ref 188) _ (.inr (.inr ⟨h0, rfl⟩)) (isNum_of h0 (by decide +kernel) (by decide +kernel)) (kind_of h0 (by decide +kernel))).mono (by decide) (by decide) (OpPost.of hTb)
  case zs =>
    have h0 := hS 0 _ rfl
    exact (operand_fig w r news tds p hR (.ref 188) _ (figure_of h0 (by decide +kernel)) (isNum_of h0 (by decide +kernel) (by decide +kernel)) (kind_of h0 (by decide +kernel)) (tok_of h0 (by decide +kernel))).mono (by decide) (by decide) (OpPost.of hTb)
  case z =>
    have h0 := hS 0 _ rfl
    exact (operand_fig w r news tds p hR (.ref 188) _ (figure_of h0 (by decide +kernel)) (isNum_of h0 (by decide +kernel) (by decide +kernel)) (kind_of h0 (by decide +kernel)) (tok_of h0 (by decide +kernel))).mono (by decide) (by decide) (OpPost.of hTb)
  case allAB =>
    have h0 := hS 0 _ rfl
    have h1 := hS 1 _ rfl
    exact (operand_all w r news tds p hR (.ref 188) _ (.inr (.inl ⟨h1, rfl⟩)) (kind_of h1 (by decide +kernel)) (isNum_of h0 (by decide +kernel) (by decide +kernel)) (kind_of h0 (by decide +kernel)) (tok_of h0 (by decide +kernel))).mono (by decide) (by decide) (OpPost.of hTb)
theorem Seg.zero {tds : Tds} {p : Nat} {l : Tds} {td : PySem.Str × PySem.Str} (h : Seg tds p l) (e : l[0]? = some td) : tds[p]? = some td := h 0 td e
theorem begins_op {tds : Tds} {p : Nat} (o : Op) (hS : Seg tds p o.toks) : beginsAt tds p = true := by
  cases o
  case A =>
    have h0 := hS.zero rfl
    unfold beginsAt; rw [name_of h0 (by decide +kernel) res_A]; simp
  case bOf =>
    have h0 := hS.zero rfl
    unfold beginsAt; rw [name_of h0 (by decide +kernel) res_B]; simp
  case bIn =>
    have h0 := hS.zero rfl
    unfold beginsAt; rw [name_of h0 (by decide +kernel) res_B]; simp
  case T =>
    have h0 := hS.zero rfl
    unfold beginsAt; rw [name_of h0 (by decide +kernel) res_T]; simp
  case n7 =>
    have h0 := hS.zero rfl
    unfold beginsAt; rw [isNum_of h0 (by decide +kernel) (show _ = true by decide +kernel)]; simp
  case lQ =>
    have h0 := hS.zero rfl
    unfold beginsAt; rw [kind_of (kk := "literal") h0 (show _ = true by decide +kernel)]; simp
  case lSUB =>
    have h0 := hS.zero rfl
    unfold beginsAt; rw [kind_of (kk := "literal") h0 (show _ = true by decide +kernel)]; simp
  case zs =>
    have h0 := hS.zero rfl
    unfold beginsAt; rw [fig_of h0 (by decide +kernel) fig_ZEROS]; simp
  case z =>
    have h0 := hS.zero rfl
    unfold beginsAt; rw [fig_of h0 (by decide +kernel) fig_ZERO]; simp
  case allAB =>
    have h0 := hS.zero rfl
    unfold beginsAt; rw [fig_of h0 (by decide +kernel) fig_ALL]; simp
theorem begins_no {tds : Tds} {p : Nat} {x : PySem.Str} (h0 : tds[p]? = some (tk_ "word" x)) (hr : resB x = true) (hf : figB x = false) : beginsAt tds p = false := by
  unfold beginsAt
  rw [isNum_of h0 (by decide +kernel) (show _ = false by decide +kernel), kind_of (kk := "literal") h0 (show _ = false by decide +kernel), name_of h0 (by decide +kernel) hr, fig_of h0 (by decide +kernel) hf]
  rfl
end Mine
end

section
open PySem PySem.W PyProof.Rows PySem.Calls PySem.Spec
set_option maxRecDepth 100000
namespace Mine
def RaisesT (w : World) (f : Addr) (vs : List Value) (d u : Nat) (news : Led) (i : Nat) : Prop :=
  ∀ (_ : rw1 = rw1) (dp un : Nat) (gd : Option (List Code)) (cn : PySem.Str) (cs : Scope) (a : Addr) (ccd : Value) (cl : List (PySem.Str × Addr)) (outer : List Env) (A₀ : Around) (base h₀ : Heap) (L : Addr) (m mg mb : PySem.Str → Option Value) (mean : ExcName → Option Value) (s : Shared) (Q E : Value → Shared → Prop),
    Below A₀ base outer h₀ → Fr h₀ L s.heap m → (KK w.params).In h₀ → News h₀ L s.heap news → Top qv (looseW qv looseV) mean mg mb h₀ → cs.kind = .function → dp + d < recursionLimit → un + u < cLine →
    (∀ e G news' h' tk', Fr h₀ L G m → KeepT news news' → Tb news' → RaisedD base G (envX cn cs L a ccd cl :: outer) e i news' h' → E (.ref e) { s with heap := h', toks := tk' }) →
    wpAny (model pw w) (ktrTop dp un gd cn cs L a ccd cl outer) (call (.ref f) vs) Q E s
theorem RaisesT.use {w : World} {f : Addr} {vs : List Value} {d u : Nat} {news : Led} {i : Nat} (H : RaisesT w f vs d u news i)
    {dp un : Nat} {gd : Option (List Code)} {cn : PySem.Str} {cs : Scope} {a : Addr} {ccd : Value} {cl : List (PySem.Str × Addr)} {outer : List Env} {A₀ : Around} {base h₀ : Heap} {L : Addr} {m mg mb : PySem.Str → Option Value} {mean : ExcName → Option Value} {s : Shared} {Q E : Value → Shared → Prop}
    (B : Below A₀ base outer h₀) (F : Fr h₀ L s.heap m) (X : (KK w.params).In h₀) (N : News h₀ L s.heap news) (T : Top qv (looseW qv looseV) mean mg mb h₀) (hk : cs.kind = .function) (hd : dp + d < recursionLimit) (hu : un + u < cLine)
    (herr : ∀ e G news' h' tk', Fr h₀ L G m → KeepT news news' → Tb news' → RaisedD base G (envX cn cs L a ccd cl :: outer) e i news' h' → E (.ref e) { s with heap := h', toks := tk' }) :
    wpAny (model pw w) (ktrTop dp un gd cn cs L a ccd cl outer) (call (.ref f) vs) Q E s := H rfl dp un gd cn cs a ccd cl outer A₀ base h₀ L m mg mb mean s Q E B F X N T hk hd hu herr
theorem RaisesT.mono {w : World} {f : Addr} {vs : List Value} {d u d' u' : Nat} {news : Led} {i j : Nat} (H : RaisesT w f vs d u news i) (hd : d ≤ d') (hu : u ≤ u') (hi : i = j) : RaisesT w f vs d' u' news j := by
  subst hi
  exact fun x dp un gd cn cs a ccd cl outer A₀ base h₀ L m mg mb mean s Q E B F X N T hk kd ku herr => H x dp un gd cn cs a ccd cl outer A₀ base h₀ L m mg mb mean s Q E B F X N T hk (by omega) (by omega) herr
def NotHere (nl : Led) (e : Addr) : Prop := ∀ q ∈ nl, q.1 ≠ e
theorem Tb.out {a b c : Led} {e : Addr} (h : Tb a) (k : Keep a b) (ne : ∀ q ∈ a, q.1 ≠ e) (o : ∀ q ∈ b, q.1 ≠ e → q ∈ c) : Tb c :=
  h.elim (fun x => .inl (o _ (k _ x rfl) (ne _ x))) fun ⟨z, x⟩ => .inr ⟨z, o _ (k _ x rfl) (ne _ x)⟩
theorem KeepT.out {n a b c : Led} {e : Addr} (h : KeepT n a) (k : Keep a b) (ne : ∀ q ∈ a, q.1 ≠ e) (o : ∀ q ∈ b, q.1 ≠ e → q ∈ c) : KeepT n c :=
  fun q hq hi hn => o q (k q (h q hq hi hn) hi) (ne q (h q hq hi hn))
def RaiseV (w : World) (E : Value → Shared → Prop) (v : Value) (s : Shared) : Prop := ∃ e dx ar, v = .ref e ∧ (KK w.params).In s.heap ∧ s.heap.get? e = some (exObj dx ar) ∧ E (.ref e) s
theorem raise_valV {w : World} {A : Around} {E : Value → Shared → Prop} {s : Shared} {env : Env} {x : Expr} {pos : Pos} {Q : Flow → Shared → Prop} (hh : A.handled = none)
    (h : wpAny (model pw w) A (eval x env) (RaiseV w E) E s) : wpAny (model pw w) A (exec (.Raise (some x) none pos) env) Q E s := raise_val hh h
section
variable {M : Model} {A A' : Around} {s : Shared} {base g g₂ : Heap} {env : Env} {outer : List Env} {L e : Addr} {m : PySem.Str → Option Value} {news : Led} {i : Nat} {Q : Value → Unit → Shared → Prop} {E : Value → Value → Shared → Prop} {w : World}
theorem raise_out (K : Below A base outer g) (F : Fr g L s.heap m) (N : News g L s.heap news) (X : (KK w.params).In g) (hF : FaultAt news e i)
    (h : ∀ h' news', (∀ q ∈ news, q.1 ≠ e → q ∈ news') → RaisedD base g outer e i news' h' → Q (.ref e) () { s with heap := h' })
    (hfr : A'.frames = some (env :: outer)) (hf : env.frame = some L) (hke : env.scope.kind ≠ .module) :
    RaiseV w (fun e s' => wpAny M A' (leaving env e) (Q e) (E e) s') (.ref e) s := by
  have hF' := hF
  obtain ⟨dx, ar, ta, k1, k2, t1, t2, what, t, n, u1, u2, tn, he, hdx, hta⟩ := hF
  exact ⟨e, dx, ar, rfl, Frag.In.keeps X F.keep, (N _ he).1, leave_first hfr hf hke K F N hF' h⟩
end
end Mine
end

section
open PySem PySem.W PyProof.Rows
set_option maxRecDepth 100000
namespace Mine
theorem reg_Md_0 : True := by
  (k_with "nt on" => ((fail_if_success walk_at "off_Md"); (skip)))
  (k_with "k_mem" => first | ((show _ ∈ _); ktr_member) | exact List.Mem.head _ | (refine' List.mem_cons_of_mem _ ?_; k_mem) | (refine sub_at (by assumption) ?_; k_mem) | (refine keep_at (by assumption) (by first | rfl | decide +kernel) ?_; k_mem) | (refine keepT_at (by assumption) rfl (fun z => nomatch z) ?_; k_mem) | (refine tab_at (by assumption) (fun z => nomatch z) ?_; k_mem) | (refine butC_at (by assumption) tup_nl ?_; k_mem))
  (k_with "got more" => ((fail_if_success walk_at "off_Md"); (intro hv'; obtain ⟨⟨e', hv', hne', hF'⟩, hR', hK'⟩ := hv'; subst hv'; (have hne9 : NotHere _ _ := hne'))))
  (k_with "exec Raise" => ((fail_if_success walk_at "off_Md"); (k_here; k_dflt (refine raise_valV (by first | rfl | assumption) ?_))))
  (k_with "exec Raise some none" => ((fail_if_success walk_at "off_Md"); (k_here; k_dflt (refine raise_valV (by first | rfl | assumption) ?_))))
  trivial
set_option maxHeartbeats 8000000 in
theorem mode_no (w : World) (r : Addr) (news : Led) (tds : Tds) (p : Nat) (hR : RS news r tds p) (mv : Value) (hb0 : tokIs tds p "word" "BY" = false) (hr0 : tokIs tds p "word" "REFERENCE" = false) (hc0 : tokIs tds p "word" "CONTENT" = false) :
    Does w 286 [.ref r, mv] 80 800 news (fun v news' => news = news' ∧ v = mv) (fun _ _ => False) := by
  refine RS.elim hR fun rd tl e t nv n h1' h2' => ?_
  unfold Does
  k_fill
  intro _ dp un gd cn cs a ccd cl outer A₀ base h₀ L m mg mb mean s Q E B F X N T hk hd hu hret herr
  have hb : Binds w ob286 [.ref r, mv] [("reader", .ref r), ("mode", mv)] := .plain rfl
  refine wpAny_call ?_
  k_dflt ktr_enter
  k_steps
  exact hret _ _ _ _ (by k_asm) (by k_asm) ⟨rfl, rfl⟩
set_option maxHeartbeats 8000000 in
theorem mode_r (w : World) (r : Addr) (news : Led) (tds : Tds) (p : Nat) (hR : RS news r tds p) (mv : Value) (hb0 : tokIs tds p "word" "BY" = false) (hr0 : tokIs tds p "word" "REFERENCE" = true) :
    Does w 286 [.ref r, mv] 80 800 news (fun v news' => (∃ t, v = .str "reference" t) ∧ RS news' r tds (p + 1) ∧ Keep news news') (fun _ _ => False) := by
  refine RS.elim hR fun rd tl e t nv n h1' h2' => ?_
  unfold Does
  k_fill
  intro _ dp un gd cn cs a ccd cl outer A₀ base h₀ L m mg mb mean s Q E B F X N T hk hd hu hret herr
  have hb : Binds w ob286 [.ref r, mv] [("reader", .ref r), ("mode", mv)] := .plain rfl
  refine wpAny_call ?_
  k_dflt ktr_enter
  k_steps
  exact hret _ _ _ _ (by k_asm) (by k_asm) ⟨⟨_, rfl⟩, by walk_at "RS", by walk_at "Keep"⟩
set_option maxHeartbeats 8000000 in
theorem mode_c (w : World) (r : Addr) (news : Led) (tds : Tds) (p : Nat) (hR : RS news r tds p) (mv : Value) (hb0 : tokIs tds p "word" "BY" = false) (hr0 : tokIs tds p "word" "REFERENCE" = false) (hc0 : tokIs tds p "word" "CONTENT" = true) :
    Does w 286 [.ref r, mv] 80 800 news (fun v news' => (∃ t, v = .str "content" t) ∧ RS news' r tds (p + 1) ∧ Keep news news') (fun _ _ => False) := by
  refine RS.elim hR fun rd tl e t nv n h1' h2' => ?_
  unfold Does
  k_fill
  intro _ dp un gd cn cs a ccd cl outer A₀ base h₀ L m mg mb mean s Q E B F X N T hk hd hu hret herr
  have hb : Binds w ob286 [.ref r, mv] [("reader", .ref r), ("mode", mv)] := .plain rfl
  refine wpAny_call ?_
  k_dflt ktr_enter
  k_steps
  exact hret _ _ _ _ (by k_asm) (by k_asm) ⟨⟨_, rfl⟩, by walk_at "RS", by walk_at "Keep"⟩
set_option maxHeartbeats 8000000 in
theorem mode_br (w : World) (r : Addr) (news : Led) (tds : Tds) (p : Nat) (hR : RS news r tds p) (mv : Value) (hb0 : tokIs tds p "word" "BY" = true) (hr0 : tokIs tds (p + 1) "word" "REFERENCE" = true) :
    Does w 286 [.ref r, mv] 80 800 news (fun v news' => (∃ t, v = .str "reference" t) ∧ RS news' r tds (p + 2) ∧ Keep news news') (fun _ _ => False) := by
  refine RS.elim hR fun rd tl e t nv n h1' h2' => ?_
  unfold Does
  k_fill
  intro _ dp un gd cn cs a ccd cl outer A₀ base h₀ L m mg mb mean s Q E B F X N T hk hd hu hret herr
  have hb : Binds w ob286 [.ref r, mv] [("reader", .ref r), ("mode", mv)] := .plain rfl
  refine wpAny_call ?_
  k_dflt ktr_enter
  k_steps
  exact hret _ _ _ _ (by k_asm) (by k_asm) ⟨⟨_, rfl⟩, by walk_at "RS", by walk_at "Keep"⟩
set_option maxHeartbeats 8000000 in
theorem mode_bc (w : World) (r : Addr) (news : Led) (tds : Tds) (p : Nat) (hR : RS news r tds p) (mv : Value) (hb0 : tokIs tds p "word" "BY" = true) (hr0 : tokIs tds (p + 1) "word" "REFERENCE" = false) (hc0 : tokIs tds (p + 1) "word" "CONTENT" = true) :
    Does w 286 [.ref r, mv] 80 800 news (fun v news' => (∃ t, v = .str "content" t) ∧ RS news' r tds (p + 2) ∧ Keep news news') (fun _ _ => False) := by
  refine RS.elim hR fun rd tl e t nv n h1' h2' => ?_
  unfold Does
  k_fill
  intro _ dp un gd cn cs a ccd cl outer A₀ base h₀ L m mg mb mean s Q E B F X N T hk hd hu hret herr
  have hb : Binds w ob286 [.ref r, mv] [("reader", .ref r), ("mode", mv)] := .plain rfl
  refine wpAny_call ?_
  k_dflt ktr_enter
  k_steps
  exact hret _ _ _ _ (by k_asm) (by k_asm) ⟨⟨_, rfl⟩, by walk_at "RS", by walk_at "Keep"⟩
theorem reg_Md_1 : True := by
  (k_with "does" => ((fail_if_success walk_at "off_Md"); first | with_reducible exact fault_does _ _ _ _ _ _ _ (by walk_at "RS") (by assumption)))
  trivial
set_option maxHeartbeats 8000000 in
theorem mode_raises (w : World) (r : Addr) (news : Led) (tds : Tds) (p : Nat) (hR : RS news r tds p) (mv : Value) (hb0 : tokIs tds p "word" "BY" = true) (hr0 : tokIs tds (p + 1) "word" "REFERENCE" = false) (hc0 : tokIs tds (p + 1) "word" "CONTENT" = false) (hp : p + 1 < tds.length) (hTb : Tb news) :
    RaisesT w 286 [.ref r, mv] 200 2000 news (p + 1) := by
  refine RS.elim hR fun rd tl e t nv n h1' h2' => ?_
  unfold RaisesT
  k_fill
  intro _ dp un gd cn cs a ccd cl outer A₀ base h₀ L m mg mb mean s Q E B F X N T hk hd hu herr
  have hb : Binds w ob286 [.ref r, mv] [("reader", .ref r), ("mode", mv)] := .plain rfl
  refine wpAny_call ?_
  k_dflt ktr_enter
  k_steps
  rename FaultAt _ _ _ => hF9
  rename Fr _ _ _ _ => F9
  rename News _ _ _ _ => N9
  rename Below _ _ _ _ => B9
  rename NotHere _ _ => ne9
  rename Keep _ _ => K9
  refine raise_out B9 F9 N9 (by assumption) hF9 (fun h9 n9 m9 R9 => ?_) ?_ ?_ ?_
  rotate_left
  · exact Around.frames_deeper B9.stack
  · rfl
  · exact fun z => nomatch z
  exact herr _ _ _ _ _ (by assumption) (KeepT.out (by walk_at "KeepT") K9 ne9 m9) (Tb.out (by walk_at "Tb") K9 ne9 m9) R9
end Mine
theorem off_Md : True := by
  (k_with "off_Md" => skip)
  trivial
end

section
open PySem PySem.W PyProof.Rows PySem.Calls PySem.Spec
set_option maxRecDepth 100000
namespace Mine
inductive Pre | no | ref (b : Bool) | con (b : Bool)
def byT (b : Bool) : Tds := if b then [tk_ "word" "BY"] else []
def Pre.toks : Pre → Tds
  | .no => []
  | .ref b => byT b ++ [tk_ "word" "REFERENCE"]
  | .con b => byT b ++ [tk_ "word" "CONTENT"]
def Pre.mode : Pre → PySem.Str → PySem.Str
  | .no, m => m
  | .ref _, _ => "reference"
  | .con _, _ => "content"
theorem Seg.left {tds : Tds} {p : Nat} {a b : Tds} (h : Seg tds p (a ++ b)) : Seg tds p a := fun i td e => h i td (by rw [List.getElem?_append_left (List.getElem?_eq_some_iff.mp e).1]; exact e)
theorem Seg.right {tds : Tds} {p : Nat} {a b : Tds} (h : Seg tds p (a ++ b)) : Seg tds (p + a.length) b := fun i td e => by
  have := h (a.length + i) td (by rw [List.getElem?_append_right (by omega)]; simpa using e)
  rwa [← Nat.add_assoc] at this
theorem Seg.none_ {tds : Tds} {p : Nat} : Seg tds p [] := fun i td e => by simp at e
def KeyNo (tds : Tds) (p : Nat) : Prop := tokIs tds p "word" "BY" = false ∧ tokIs tds p "word" "REFERENCE" = false ∧ tokIs tds p "word" "CONTENT" = false
theorem mode_does (w : World) (r : Addr) (news : Led) (tds : Tds) (p : Nat) (hR : RS news r tds p) (m : PySem.Str) (mt : Nat) (pre : Pre) (mo : PySem.Str) (hmo : pre.mode m = mo) (hS : Seg tds p pre.toks) (hno : pre = .no → KeyNo tds p) :
    Does w 286 [.ref r, .str m mt] 80 800 news (fun v news' => (∃ t, v = .str mo t) ∧ RS news' r tds (p + pre.toks.length) ∧ Keep news news') (fun _ _ => False) := by
  subst hmo
  cases pre
  case no =>
    obtain ⟨a, b, c⟩ := hno rfl
    exact (mode_no w r news tds p hR (.str m mt) a b c).mono (by decide) (by decide) fun v n h => h.1 ▸ ⟨⟨mt, h.2⟩, hR, fun q hq _ => hq⟩
  case ref b =>
    cases b
    · have h0 := hS.zero (td := tk_ "word" "REFERENCE") rfl
      exact mode_r w r news tds p hR (.str m mt) (tok_of h0 (by decide +kernel)) (tok_of h0 (by decide +kernel))
    · have h0 := hS.zero (td := tk_ "word" "BY") rfl
      have h1 := hS 1 (tk_ "word" "REFERENCE") rfl
      exact mode_br w r news tds p hR (.str m mt) (tok_of h0 (by decide +kernel)) (tok_of h1 (by decide +kernel))
  case con b =>
    cases b
    · have h0 := hS.zero (td := tk_ "word" "CONTENT") rfl
      exact mode_c w r news tds p hR (.str m mt) (tok_of h0 (by decide +kernel)) (tok_of h0 (by decide +kernel)) (tok_of h0 (by decide +kernel))
    · have h0 := hS.zero (td := tk_ "word" "BY") rfl
      have h1 := hS 1 (tk_ "word" "CONTENT") rfl
      exact mode_bc w r news tds p hR (.str m mt) (tok_of h0 (by decide +kernel)) (tok_of h1 (by decide +kernel)) (tok_of h1 (by decide +kernel))
theorem op_key {tds : Tds} {p : Nat} (o : Op) (hS : Seg tds p o.toks) : KeyNo tds p := by
  cases o <;> exact ⟨tok_of (hS.zero rfl) (by decide +kernel), tok_of (hS.zero rfl) (by decide +kernel), tok_of (hS.zero rfl) (by decide +kernel)⟩
def Op.isRef : Op → Bool
  | .A | .bOf | .bIn | .T => true
  | _ => false
def Op.tag : Op → PySem.Str
  | .A | .bOf | .bIn | .T => "ref"
  | .n7 => "number"
  | .lQ | .lSUB => "text"
  | .zs | .z => "figure"
  | .allAB => "all"
theorem Op.tag_ref {o : Op} (h : o.isRef = true) : o.tag = "ref" := by cases o <;> first | rfl | cases h
theorem Op.noL (o : Op) : noL o.dat = true := by cases o <;> rfl
theorem Op.data (o : Op) : ∃ ds, o.dat = .tuple (.str o.tag :: ds) ∧ ds.length ≤ 10 := by cases o <;> exact ⟨_, rfl, by decide⟩
theorem DatAll.len {a : Led} : ∀ {vs : List Value} {ds : List Dat}, DatAll a vs ds → vs.length = ds.length
  | _, _, .nil => rfl
  | _, _, .cons _ r => congrArg (· + 1) (DatAll.len r)
theorem Op.head {n : Led} {v : Value} (o : Op) (h : DatIn n v o.dat) : ∃ a t vs k, v = .ref a ∧ (a, tupO (.str o.tag t :: vs) k) ∈ n ∧ vs.length ≤ 10 := by
  obtain ⟨ds, e, hl⟩ := o.data
  rw [e] at h
  cases h with
  | tuple hm r =>
    cases r with
    | cons x r =>
      cases x with
      | str _ t =>
        refine ⟨_, t, _, _, rfl, hm, ?_⟩
        rw [DatAll.len r]; exact hl
theorem tup0_led {prog : Program} {w : World} {A : Around} {E : Value → Shared → Prop} {s : Shared} {h₀ : Heap} {L l : Addr} {news : Led} {v0 : Value} {vs : List Value} {n : Nat} {value slice : PySem.Expr} {u : Tok} {Q : Value → Shared → Prop} (N : News h₀ L s.heap news) (hl : (l, tupO (v0 :: vs) n) ∈ news) (hz : vs.length ≤ 10)
    (h : Q v0 s) (hs : subscripted slice false (.ref l) (.int 0 u) = operate [.ref l, .int 0 u] (getItem (.ref l) (.int 0 u)) := by with_unfolding_all rfl) :
    wpAny (model prog w) A (subscriptTail value slice (.ref l) (.int 0 u)) Q E s := by
  have ht : IsTup s.heap l (v0 :: vs).toArray := News.isTup N hl
  exact tail_any ht.typeIs slot_tuple_getitem.lookup (getItem_tuple ht (by decide) (by decide) (seqIndex_of (by decide) (by simp)) (x := v0) (by simp) h) hs
abbrev Row := Pre × Op
def rowToks (x : Row) : Tds := x.1.toks ++ x.2.toks
def rowsToks : List Row → Tds
  | [] => []
  | x :: xs => rowToks x ++ rowsToks xs
def rowsDat : PySem.Str → List Row → List Dat
  | _, [] => []
  | m, x :: xs => .tuple [.str (x.1.mode m), x.2.dat] :: rowsDat (x.1.mode m) xs
def rowsOk : PySem.Str → List Row → Prop
  | _, [] => True
  | m, x :: xs => (x.1.mode m = "reference" → x.2.isRef = true) ∧ rowsOk (x.1.mode m) xs
def isMode (m : PySem.Str) : Prop := m = "reference" ∨ m = "content"
theorem Pre.isMode {m : PySem.Str} (h : isMode m) (x : Pre) : Mine.isMode (x.mode m) := by
  cases x
  · exact h
  · exact .inl rfl
  · exact .inr rfl
def StopAt (tds : Tds) (q : Nat) : Prop := NextOk tds q ∧ beginsAt tds q = false ∧ KeyNo tds q
theorem rows_next {tds : Tds} {q : Nat} {xs : List Row} (hS : Seg tds q (rowsToks xs)) (hN : StopAt tds (q + (rowsToks xs).length)) (h : beginsAt tds q = true ∨ tokIs tds q "word" "BY" = true ∨ tokIs tds q "word" "REFERENCE" = true ∨ tokIs tds q "word" "CONTENT" = true) : xs ≠ [] := by
  rintro rfl
  obtain ⟨_, a, b, c, d⟩ := hN
  have e : q + (rowsToks []).length = q := rfl
  rw [e] at a b c d
  rw [a, b, c, d] at h
  simp at h
theorem rows_stop {tds : Tds} {q : Nat} {xs : List Row} (hS : Seg tds q (rowsToks xs)) (h : beginsAt tds q = false) (h2 : tokIs tds q "word" "BY" = false) (h3 : tokIs tds q "word" "REFERENCE" = false) (h4 : tokIs tds q "word" "CONTENT" = false) : xs = [] := by
  cases xs with
  | nil => rfl
  | cons x xs =>
    exfalso
    obtain ⟨pre, o⟩ := x
    have hS := hS.left
    cases pre with
    | no =>
      have := begins_op o (show Seg tds q o.toks from hS)
      rw [this] at h; cases h
    | ref b =>
      cases b
      · have := tok_of (b := true) (kk := "word") (xx := "REFERENCE") (hS.left.zero (td := tk_ "word" "REFERENCE") rfl) (by decide +kernel)
        rw [h3] at this; cases this
      · have := tok_of (b := true) (kk := "word") (xx := "BY") (hS.left.zero (td := tk_ "word" "BY") rfl) (by decide +kernel)
        rw [h2] at this; cases this
    | con b =>
      cases b
      · have := tok_of (b := true) (kk := "word") (xx := "CONTENT") (hS.left.zero (td := tk_ "word" "CONTENT") rfl) (by decide +kernel)
        rw [h4] at this; cases this
      · have := tok_of (b := true) (kk := "word") (xx := "BY") (hS.left.zero (td := tk_ "word" "BY") rfl) (by decide +kernel)
        rw [h2] at this; cases this
theorem rows_ok {tds : Tds} {q : Nat} {xs : List Row} (hS : Seg tds q (rowsToks xs)) (hN : StopAt tds (q + (rowsToks xs).length)) : NextOk tds q := by
  cases xs with
  | nil => exact hN.1
  | cons x xs =>
    obtain ⟨pre, o⟩ := x
    have hS := hS.left
    cases pre with
    | no =>
      have hS : Seg tds q o.toks := hS
      cases o <;> exact ⟨tok_of (hS.zero rfl) (by decide +kernel), tok_of (hS.zero rfl) (by decide +kernel), tok_of (hS.zero rfl) (by decide +kernel)⟩
    | ref b =>
      cases b
      · have h0 := hS.left.zero (td := tk_ "word" "REFERENCE") rfl
        exact ⟨tok_of h0 (by decide +kernel), tok_of h0 (by decide +kernel), tok_of h0 (by decide +kernel)⟩
      · have h0 := hS.left.zero (td := tk_ "word" "BY") rfl
        exact ⟨tok_of h0 (by decide +kernel), tok_of h0 (by decide +kernel), tok_of h0 (by decide +kernel)⟩
    | con b =>
      cases b
      · have h0 := hS.left.zero (td := tk_ "word" "CONTENT") rfl
        exact ⟨tok_of h0 (by decide +kernel), tok_of h0 (by decide +kernel), tok_of h0 (by decide +kernel)⟩
      · have h0 := hS.left.zero (td := tk_ "word" "BY") rfl
        exact ⟨tok_of h0 (by decide +kernel), tok_of h0 (by decide +kernel), tok_of h0 (by decide +kernel)⟩
structure Hold (P : Prop) : Prop where
  out : P
theorem whl_hold {prog : Program} {w : World} {A : Around} {E : Value → Shared → Prop} {s : Shared} {env : Env} {test : PySem.Expr} {body orelse : List Stmt} {Q : Flow → Shared → Prop} {pos : Pos} (h : Hold (WhlRest prog w A E env test body orelse Q 0 s)) : wpAny (model prog w) A (exec (.While test body orelse pos) env) Q E s := whl_start 0 h.out
theorem whl_ind {prog : Program} {w : World} {A : Around} {E : Value → Shared → Prop} {s₀ : Shared} {env : Env} {test : PySem.Expr} {body orelse : List Stmt} {Q : Flow → Shared → Prop} {α : Type} (I : α → Heap → Nat → Prop) (lt : α → Nat)
    (step : ∀ k x h tk, I x h tk → (∀ y h' tk', lt y < lt x → I y h' tk' → WhlRest prog w A E env test body orelse Q k { s₀ with heap := h', toks := tk' }) → WhlRest prog w A E env test body orelse Q (k + 1) { s₀ with heap := h, toks := tk })
    (k : Nat) (x : α) (h : Heap) (tk : Nat) (hI : I x h tk) : WhlRest prog w A E env test body orelse Q k { s₀ with heap := h, toks := tk } := by
  suffices key : ∀ n, ∀ x h tk, lt x < n → I x h tk → WhlRest prog w A E env test body orelse Q 0 { s₀ with heap := h, toks := tk } from key _ x h tk (Nat.lt_succ_self _) hI
  intro n
  induction n with
  | zero => exact fun x h tk hl => absurd hl (Nat.not_lt_zero _)
  | succ n ih => exact fun x h tk hl hI => step 0 x h tk hI fun y h' tk' hy hI' => ih y h' tk' (by omega) hI'
theorem Fr.congr {g h : Heap} {L : Addr} {m m' : PySem.Str → Option Value} (F : Fr g L h m) (e : ∀ y, m y = m' y) : Fr g L h m' := by
  have : m = m' := funext e
  exact this ▸ F
theorem DatAll.snoc {a : Led} {v : Value} {d : Dat} (x : DatIn a v d) : ∀ {vs : List Value} {ds : List Dat}, DatAll a vs ds → DatAll a (vs ++ [v]) (ds ++ [d])
  | _, _, .nil => .cons x .nil
  | _, _, .cons y r => .cons y (DatAll.snoc x r)
theorem DatAll.push {a : Led} {vs : Array Value} {ds : List Dat} {v : Value} {d : Dat} (h : DatAll a vs.toList ds) (x : DatIn a v d) : DatAll a (vs.push v).toList (ds ++ [d]) := by
  rw [Array.toList_push]
  exact DatAll.snoc x h
theorem noLs_app : ∀ {a b : List Dat}, noLs a = true → noLs b = true → noLs (a ++ b) = true
  | [], _, _, h => h
  | d :: a, b, h, h' => by
    simp only [noLs, Bool.and_eq_true, List.cons_append] at h ⊢
    exact ⟨h.1, noLs_app h.2 h'⟩
theorem NoToks.up {a b : Led} {its : Array Value} (h : NoToks its a) (up : ∀ y vs n, (y, tupO vs n) ∈ a → (y, tupO vs n) ∈ b) : NoToks its b :=
  h.imp id fun ⟨y, vs, n, e, hy⟩ => ⟨y, vs, n, e, up _ _ _ hy⟩
theorem NoToks.push {a b : Led} {its : Array Value} {z : Addr} {ws : List Value} {k : Nat} (h : NoToks its a) (up : ∀ y vs n, (y, tupO vs n) ∈ a → (y, tupO vs n) ∈ b) (hz : (z, tupO ws k) ∈ b) : NoToks (its.push (.ref z)) b := by
  refine .inr ?_
  rcases h with rfl | ⟨y, vs, n, e, hy⟩
  · exact ⟨z, ws, k, rfl, hz⟩
  · refine ⟨y, vs, n, ?_, up _ _ _ hy⟩
    have : 0 < its.size := (Array.getElem?_eq_some_iff.mp e).1
    rw [Array.getElem?_push_lt this]
    rw [Array.getElem?_eq_getElem this] at e
    exact e
abbrev argMap (r D : Addr) (mo : PySem.Str) (mt : Nat) (ov : Option Value) : PySem.Str → Option Value := fun y => if y = "operand" then ov else if y = "mode" then some (.str mo mt) else if y = "args" then some (.ref D) else ([("reader", .ref r)] : List (PySem.Str × Value)).reverse.lookup y
theorem amap_step {g h : Heap} {L r D : Addr} {mo mo' : PySem.Str} {mt t' : Nat} {ov : Option Value} {v : Value} (F : Fr g L h (fun y => if y = ("operand" : PySem.Str) then some v else if y = ("mode" : PySem.Str) then some (.str mo' t') else argMap r D mo mt ov y)) : Fr g L h (argMap r D mo' t' (some v)) := by
  refine Fr.congr F fun y => ?_
  by_cases h1 : y = ("operand" : PySem.Str)
  · simp only [argMap, if_pos h1]
  · by_cases h2 : y = ("mode" : PySem.Str)
    · simp only [argMap, if_neg h1, if_pos h2]
    · simp only [argMap, if_neg h1, if_neg h2]
inductive ArgsInv (g : Heap) (L : Addr) (news : Led) (r : Addr) (tds : Tds) (pe : Nat) (full : List Dat) (D : Addr) (ys : List Row) (h : Heap) : Prop
  | mk (nw : Led) (its : Array Value) (n p : Nat) (mo : PySem.Str) (mt : Nat) (ov : Option Value) (done : List Dat) : (Fr g L h (argMap r D mo mt ov)) → (News g L h nw) → ((D, W.listOf its n) ∈ nw) → (DatAll nw its.toList done) → (RS nw r tds p) → (KeepT news nw) → (Tb nw) → (isMode mo) → (ys ≠ []) → (Seg tds p (rowsToks ys)) → (StopAt tds (p + (rowsToks ys).length)) → (rowsOk mo ys) → (done ++ rowsDat mo ys = full) → (its.size + ys.length ≤ 60) → (p + (rowsToks ys).length = pe) → (NoToks its nw) → (noLs done = true) → ArgsInv g L news r tds pe full D ys h
theorem DatAll.mono {a b : Led} (k : ∀ q ∈ a, q ∈ b) : ∀ {vs : List Value} {ds : List Dat}, DatAll a vs ds → DatAll b vs ds
  | _, _, .nil => .nil
  | _, _, .cons h r => .cons (DatIn.mono k h) (DatAll.mono k r)
end Mine
end

section
open PySem PySem.W PyProof.Rows
set_option maxRecDepth 100000
namespace Mine
theorem reg_Ra_0 : True := by
  k_with_none
  (k_with "room" => (first | exact room_le (by assumption) rfl rfl | ktr_room | ktr_units))
  (k_with "room0" => (first | exact room_lt (by assumption) rfl | ktr_room | (simp only [A9, depth_under_make, depth_deeper]; omega)))
  (k_with "sR" => (simp only [Int.reduceAdd, Int.reduceToNat, Nat.add_zero, Nat.zero_add, Nat.add_assoc, Nat.reduceAdd] at hR'))
  (k_with "sB" => (simp only [Int.reduceAdd, Int.reduceToNat, Nat.add_zero, Nat.zero_add, Nat.add_assoc, Nat.reduceAdd] at hb'))
  (k_with "fold" => ((fail_if_success (fail_if_success k_fold)); refine' (let qk := _; (?_ : wpAny _ _ _ qk _ _))))
  (k_with "nextQ" => (first | with_reducible refine nextQ_next ?_ | with_reducible refine nextQ_ret ?_ | with_reducible refine nextQ_brk ?_ | with_reducible refine nextQ_cont ?_))
  (k_with "outQ" => (first | with_reducible refine outQ_ret ?_ | with_reducible refine outQ_next ?_))
  (k_with "outE" => (with_reducible refine outE_go ?_))
  (k_with "resR" => (first | with_reducible refine resR_ret ?_ | with_reducible refine resR_err ?_))
  (k_with "rdM" => (first | exact rdM_365 rfl X | exact rdM_379 rfl X | exact rdM_386 rfl X | exact rdM_394 rfl X | exact rdM_401 rfl X | exact rdM_408 rfl X | exact rdM_415 rfl X | exact rdM_422 rfl X | exact rdM_437 rfl X | exact rdM_444 rfl X | exact rdM_459 rfl X | exact rdM_466 rfl X | exact rdM_473 rfl X | exact rdM_480 rfl X | exact rdM_487 rfl X | exact rdM_508 rfl X))
  (k_with "fnM" => (first | exact fnM_29 rfl X | exact fnM_36 rfl X | exact fnM_50 rfl X | exact fnM_57 rfl X | exact fnM_64 rfl X | exact fnM_71 rfl X | exact fnM_139 rfl X | exact fnM_181 rfl X | exact fnM_174 rfl X | exact fnM_188 rfl X | exact fnM_195 rfl X | exact fnM_202 rfl X | exact fnM_209 rfl X | exact fnM_216 rfl X | exact fnM_230 rfl X | exact fnM_237 rfl X | exact fnM_244 rfl X | exact fnM_251 rfl X | exact fnM_258 rfl X | exact fnM_265 rfl X | exact fnM_272 rfl X | exact fnM_279 rfl X | exact fnM_286 rfl X | exact fnM_293 rfl X | exact fnM_300 rfl X | exact fnM_337 rfl X | exact fnM_342 rfl X | exact fnM_522 rfl X | exact fnM_527 rfl X | exact fnM_547 rfl X | exact fnM_561 rfl X | exact fnM_568 rfl X | exact fnM_582 rfl X | exact fnM_610 rfl X))
  (k_with "spliced" => (k_here; (with_reducible show wpAny _ _ (spliced (backTo _ (starEach (_ :: _) _))) _ _ _); with_reducible (refine' argsV ?k1 ?hV ?hv ?_; (case hV => assumption); k_dflt ((case k1 => k_asm); (case hv => first | exact rfl | with_unfolding_all rfl); k_whole))))
  (k_with "eval Name" => (k_here; with_reducible (refine' nameV ?k1 ?hV ?hv ?_; (case hV => assumption); k_dflt ((case k1 => k_asm); (case hv => first | exact rfl | with_unfolding_all rfl); k_whole))))
  (k_with "eval Call" => (k_here; (with_reducible show wpAny _ _ (eval (Expr.Call (Expr.Name _ _) _ [] _) _) _ _ _); (try walk_at "fold"); with_reducible (refine' fcall ?k1 ?k2 ?k3 ?hV ?hx ?hM ?hv ?_; (case hM => walk_at "fnM"); (case hV => assumption); k_dflt ((case hx => exact rfl); (case k1 => k_asm); (case k2 => k_asm); (case k3 => k_asm); (case hv => first | exact rfl | with_unfolding_all rfl); k_whole))))
  (k_with "eval Call Attribute" => (k_here; (with_reducible show wpAny _ _ (eval (Expr.Call (Expr.Attribute (Expr.Name _ _) _ _) _ [] _) _) _ _ _); (try walk_at "fold"); with_reducible (refine' mcall ?k1 ?k2 ?k3 ?hV ?hv ?hR ?hM ?he ?_; (case hM => walk_at "rdM"); (case hV => assumption); k_dflt ((case k1 => k_asm); (case k2 => k_asm); (case k3 => k_asm); (case hv => first | exact rfl | with_unfolding_all rfl); (case hR => walk_at "RS"); (case he => exact rfl); k_whole))))
  (k_with "getMethod ref" => (k_here; k_dflt (refine' rd_method ?k1 ?k2 ?k3 ?k4 ?k5 ?k6 ?k7 ?k8 ?_; (case k1 => k_asm); (case k2 => k_asm); (case k3 => k_asm); (case k4 => walk_at "RS"); (case k5 => k_is); (case k6 => k_is); (case k7 => k_is); (case k8 => decide); k_whole)))
  (k_with "ktr_enter" => (refine' code_def ?k1 ?k2 ?k3 ?k4 ?k5 ?kA ?kF ?kK ?k6 ?k7 ?k8 ?k9 ?kB ?_ ?c2 ?c3 ?c4 ?c5; (case kA => exact rfl); (case kF => exact rfl); (case kK => assumption); (case k1 => k_asm); (case k2 => k_asm); (case k3 => k_asm); (case k4 => k_asm); (case k5 => k_asm); (case k6 => k_is); (case k7 => k_is); (case k8 => walk_at "room0"); (case k9 => (rename Binds _ _ _ _ => hbX; exact hbX _ (by k_in))); (case c5 => decide); (case kB => exact locs rfl); (case c2 => exact rfl); (case c3 => exact rfl); (case c4 => exact rfl); k_whole; intro g' L' h' FG' F' N' B' X' T'; (try dsimp only); refine' (let e9 : PySem.Env := _; let A9 : PySem.Around := PySem.Around.deeper _ e9; let rk := resR _ _; let qk := outQ _ _ _ _ rk; let ek := outE _ A9 e9 rk; (?_ : wpAny _ A9 (execs _ e9) qk ek _)); (have hV9 : FnEnv e9 _ := FnEnv.of (by exact rfl))))
  (k_with "k_mem" => first | ((show _ ∈ _); ktr_member) | exact List.Mem.head _ | (refine' List.mem_cons_of_mem _ ?_; k_mem))
  (k_with "RS" => first | assumption | exact RS.sub1 (by assumption) | exact RS.sub1 (RS.sub1 (by assumption)) | exact RS.sub1 (RS.sub1 (RS.sub1 (by assumption))) | exact RS.sub1 (RS.sub1 (RS.sub1 (RS.sub1 (by assumption)))) | exact RS.sub1 (RS.sub1 (RS.sub1 (RS.sub1 (RS.sub1 (by assumption))))) | exact RS.sub1 (RS.sub1 (RS.sub1 (RS.sub1 (RS.sub1 (RS.sub1 (by assumption)))))))
  (k_with "gotn" => (first | ((fail_if_success (intro v' n' h' tk' F' N' hv'; simp only [Int.reduceAdd, Int.reduceToNat, Nat.add_zero, Nat.zero_add, Nat.add_assoc, Nat.reduceAdd] at hv')); first | (with_reducible refine got_v ?_; intro h' tk' F' N') | (with_reducible refine' got_pk ?ho ?_; (case ho => with_reducible assumption); intro x' dx' ta' t1' t2' tn' e' tt' nn' h' tk' F' N' hx' hdx' hta') | (with_reducible refine got_pn ?ho ?_; (case ho => with_reducible assumption); intro h' tk' F' N') | (with_reducible refine got_ps ?hn ?_; (case hn => exact (fun h9 => no_kind h9 (by with_reducible assumption))); intro td' x' dx' ta' t1' t2' tn' e' tt' nn' h' tk' F' N' ht' hx' hdx' hta') | (with_reducible refine got_p2 (fun ht' h' tk' F' N' => ?_) (fun td' x' dx' ta' t1' t2' tn' e' tt' nn' h' tk' F' N' ht' hx' hdx' hta' => ?_)) | (with_reducible refine got_x ?_; intro t' h' tk' F' N')) | (with_reducible refine got_tk ?_; intro x' dx' ta' t1' t2' tn' e' tt' nn' n' h' tk' F' N' hR' hK' hx' hdx' hta'; (try walk_at "sR")) | (with_reducible refine got_xm ?_; intro t' n' h' tk' F' N' hR' hK'; (try walk_at "sR")) | (with_reducible refine got_vm ?_; intro n' h' tk' F' N' hR' hK'; (try walk_at "sR")) | (with_reducible refine got_skF ?hn ?_; (case hn => first | exact (fun h9 => no_bool h9 (by assumption)) | exact (fun h9 => no_tokIs (by assumption) h9 (by first | rfl | decide))); intro hb' h' tk' F' N'; (try walk_at "sB")) | (with_reducible refine got_skT ?hn ?_; (case hn => first | exact (fun h9 => no_bool (by assumption) h9) | exact (fun h9 => no_tokIs' (by assumption) h9 (by first | rfl | decide))); intro hb' n' h' tk' F' N' hR' hK'; (try walk_at "sR"); (try walk_at "sB")) | ((with_reducible refine got_sk (fun hb' n' h' tk' F' N' hR' hK' => ?_) (fun hb' h' tk' F' N' => ?_)) <;> ((try walk_at "sR"); (try walk_at "sB"))) | (refine got_xs ?_; intro t' n' h' tk' F' N' hs'; (fail_if_success (have h9 := And.left hs')); (try (have hR' := RS.sub (by walk_at "RS") hs'))) | (refine got_tp ?_; intro a' t1' t2' n' h' tk' F' N' hm' hs'; (fail_if_success (have h9 := And.left hs')); (try (have hR' := RS.sub (by walk_at "RS") hs')))))
  (k_with "got" => (first | walk_at "gotn" | (intro v' n' h' tk' F' N' hv'; simp only [Int.reduceAdd, Int.reduceToNat, Nat.add_zero, Nat.zero_add, Nat.add_assoc, Nat.reduceAdd] at hv'; revert v' n' h' tk' F' N' hv'; walk_at "gotn") | (intro v' n' h' tk' F' N' hv'; (try simp only [Int.reduceAdd, Int.reduceToNat, Nat.add_zero, Nat.zero_add, Nat.add_assoc, Nat.reduceAdd] at hv'); revert hv'; walk_at "got more")))
  (k_with "call ref" => (k_here; (with_reducible show wpAny _ _ (call (Value.ref _) _) _ _ _); (try walk_at "fold"); k_dflt (refine' Does.use0 ?H ?k1 ?k2 ?k3 ?k4 ?k5 ?k6 ?kd ?ku ?_; (case k1 => k_asm); (case k2 => k_asm); (case k3 => k_asm); (case k4 => k_asm); (case k5 => k_asm); (case H => ((try dsimp only [List.cons_append, List.nil_append]); walk_at "does")); (case k6 => first | rfl | assumption); (case kd => walk_at "room"); (case ku => walk_at "room"); k_whole); k_dflt (walk_at "got")))
  (k_with "DatAll" => first | assumption | (refine DatAll.mono (fun _ h9 => List.mem_cons_of_mem _ h9) ?_; walk_at "DatAll") | (refine DatAll.keep (by assumption) ?_; walk_at "DatAll") | (refine DatAll.keepT (by assumption) ?_; walk_at "DatAll") | (refine DatAll.butC (by assumption) ?_ (by assumption); walk_at "DatAll"))
  (k_with "Tups" => (intro y9 v9 n9 h9; repeat' (first | exact h9 | refine butC_at (by assumption) tup_nl ?_ | refine List.mem_cons_of_mem _ ?_ | refine keepT_at (by assumption) rfl (fun z => nomatch z) ?_ | refine keep_at (by assumption) rfl ?_)))
  (k_with "k_mem" => first | ((show _ ∈ _); ktr_member) | exact List.Mem.head _ | (refine' List.mem_cons_of_mem _ ?_; k_mem) | (refine sub_at (by assumption) ?_; k_mem) | (refine keep_at (by assumption) (by first | rfl | decide +kernel) ?_; k_mem) | (refine butC_at (by assumption) tup_nl ?_; k_mem))
  (k_with "Keep" => (intro q9 hq9 hi9; repeat' (first | exact hq9 | refine sub_at (by assumption) ?_ | refine keep_at (by assumption) hi9 ?_ | refine List.mem_cons_of_mem _ ?_ | refine but_at (by assumption) ?_ ?_ | refine ne_lt (by assumption) ?_ | refine ne_all (by first | assumption | exact And.right (by assumption)) ?_)))
  (k_with "Tb" => first | assumption | (refine Tb.keep ?_ (by assumption); walk_at "Tb") | (refine Tb.cons ?_; walk_at "Tb") | (refine Tb.sub ?_ (by assumption); walk_at "Tb") | (refine Tb.butC ?_ (by assumption); walk_at "Tb"))
  (k_with "KeepT" => (intro q9 hq9 hi9 hn9; repeat' (first | exact hq9 | refine sub_at (by assumption) ?_ | refine keep_at (by assumption) hi9 ?_ | refine keepT_at (by assumption) hi9 hn9 ?_ | refine tab_at (by assumption) hn9 ?_ | refine List.mem_cons_of_mem _ ?_ | refine but_at (by assumption) ?_ ?_ | refine ne_lt (by assumption) ?_ | refine ne_all (by first | assumption | exact And.right (by assumption)) ?_)))
  (k_with "k_mem" => first | ((show _ ∈ _); ktr_member) | exact List.Mem.head _ | (refine' List.mem_cons_of_mem _ ?_; k_mem) | (refine sub_at (by assumption) ?_; k_mem) | (refine keep_at (by assumption) (by first | rfl | decide +kernel) ?_; k_mem) | (refine keepT_at (by assumption) rfl (fun z => nomatch z) ?_; k_mem) | (refine tab_at (by assumption) (fun z => nomatch z) ?_; k_mem) | (refine butC_at (by assumption) tup_nl ?_; k_mem))
  (k_with "Dat" => first | assumption | (refine DatIn.mono (fun _ h9 => List.mem_cons_of_mem _ h9) ?_; walk_at "Dat") | (refine DatIn.keep (by assumption) ?_; walk_at "Dat") | (refine DatIn.keepT (by assumption) ?_; walk_at "Dat") | (refine DatIn.butC (by assumption) ?_ (by first | rfl | exact Op.noL _ | assumption); walk_at "Dat") | (refine DatIn.mono (by assumption) ?_; walk_at "Dat"))
  (k_with "got more" => (intro hv'; obtain ⟨hp', hs'⟩ := hv'; (first | (obtain ⟨t', hv'⟩ := hp'; subst hv') | (obtain ⟨a', t1', t2', hv', hm'⟩ := hp'; subst hv')); (try (have hR' := RS.sub (by walk_at "RS") hs'))))
  (k_with "got more" => (intro hv'; obtain ⟨hp', hR', hK', hT'⟩ := hv'; (have hd' : DatIn _ _ (Op.dat _) := hp'); obtain ⟨a', t1', vs', k', hv', hm', hl'⟩ := Op.head _ hp'; subst hv'))
  (k_with "subscriptTail" => (k_here; (with_reducible show wpAny _ _ (subscriptTail _ _ (Value.ref _) (Value.int _ _)) _ _ _); k_dflt (refine' tup0_led ?k1 ?k2 ?k3 ?_ ?k6; (case k1 => k_asm); (case k2 => k_mem); (case k3 => assumption); (case k6 => with_unfolding_all rfl); k_whole)))
  (k_with "call builtin:list.append" => (k_here; (with_reducible show wpAny _ _ (call (Value.builtin _) [Value.ref _, _]) _ _ _); (rename News _ _ _ _ => lN'); k_dflt (refine' append_led ?k1 ?k2 ?k3 ?k4 ?_; (case k1 => k_asm); (case k2 => exact lN'); (case k3 => k_mem); (case k4 => first | exact Nat.le_of_ble_eq_true rfl | assumption | (simp only [List.size_toArray]; omega)); k_whole); intro h' n' F' N' hm' hb' ho' hc'; (try (k_dflt (have hR' := RS.but lN' (by walk_at "RS") ho' (by first | assumption | exact len_pos (by assumption)) (by first | exact .inl rfl | assumption | exact .inr ⟨_, _, _, rfl, by k_mem⟩ | exact NoToks.up (by assumption) (by walk_at "Tups")) hb')))))
  (k_with "exec While Constant" => (k_here; k_dflt (refine whl_hold ?_)))
  (k_with "WhlPost" => ((dsimp only [WhlPost]); first | (refine Hold.out (P := WhlRest _ _ _ _ _ _ _ _ _ _ _) ?_) | skip))
  (k_with "call type:tuple" => (k_here; (with_reducible show wpAny _ _ (call (Value.type _) [Value.ref _]) _ _ _); k_dflt (refine' kde_tupleOf ?k1 ?k2 ?k3 ?k4 ?k5 ?_; (case k1 => k_asm); (case k2 => k_asm); (case k3 => exact News.isList (by k_asm) (by k_mem)); (case k4 => (simp only [Array.size_push]; omega)); (case k5 => exact rfl); k_whole); intro D' h' F' N' l1; (try k_lt l1)))
  trivial
theorem mode_at (w : World) (r : Addr) (news : Led) (tds : Tds) (p : Nat) (hR : RS news r tds p) (m : PySem.Str) (mt : Nat) (pre : Pre) (mo : PySem.Str) (hmo : pre.mode m = mo) (hS : Seg tds p pre.toks) (hno : pre = .no → KeyNo tds p) (q : Nat) (hq : p + pre.toks.length = q) :
    Does w 286 [.ref r, .str m mt] 80 800 news (fun v news' => (∃ t, v = .str mo t) ∧ RS news' r tds q ∧ Keep news news') (fun _ _ => False) := hq ▸ mode_does w r news tds p hR m mt pre mo hmo hS hno
theorem op_at (w : World) (r : Addr) (news : Led) (tds : Tds) (p : Nat) (hR : RS news r tds p) (hlen : Short tds) (o : Op) (hS : Seg tds p o.toks) (q : Nat) (hq : p + o.toks.length = q) (hN : NextOk tds q) (hTb : Tb news) :
    Does w 71 [.ref r, .ref 188] 300 3600 news (OpPost r tds news q o.dat) (fun _ _ => False) := by
  subst hq
  exact operand_does w r news tds p hR hlen o hS hN hTb
theorem begins_pos {tds : Tds} {q : Nat} (h : beginsAt tds q = true) : 0 < tds.length := by
  cases tds with
  | nil => simp [beginsAt, isNum, kindAt, tokIs, nameAt, figAt] at h
  | cons => simp
theorem reg_Ra_1 : True := by
  (k_with "does" => first | with_reducible exact mode_at _ _ _ _ _ (by walk_at "RS") _ _ _ _ (by assumption) (by assumption) (by assumption) _ (by assumption))
  (k_with "does" => first | with_reducible exact op_at _ _ _ _ _ (by walk_at "RS") (by assumption) _ (by assumption) _ (by assumption) (by assumption) (by walk_at "Tb"))
  (k_with "does" => first | with_reducible exact begins_does _ _ _ _ _ (by walk_at "RS") (by assumption))
  (k_with "does" => first | with_reducible exact is_word_does _ _ _ _ _ _ _ (by walk_at "RS") (by first | assumption | exact ⟨by decide +kernel, by decide⟩))
  trivial
set_option maxHeartbeats 8000000 in
theorem args_does (w : World) (r : Addr) (news : Led) (tds : Tds) (p : Nat) (hR : RS news r tds p) (hlen : Short tds) (xs : List Row) (hx : xs ≠ []) (hS : Seg tds p (rowsToks xs)) (hN : StopAt tds (p + (rowsToks xs).length)) (hok : rowsOk "reference" xs) (hz : xs.length ≤ 50) (hTb : Tb news) :
    Does w 293 [.ref r] 340 4200 news (OpPost r tds news (p + (rowsToks xs).length) (.tuple (rowsDat "reference" xs))) (fun _ _ => False) := by
  refine RS.elim hR fun rd tl e t nv n h1' h2' => ?_
  unfold Does
  k_fill
  intro _ dp un gd cn cs a ccd cl outer A₀ base h₀ L m mg mb mean s Q E B F X N T hk hd hu hret herr
  have hb : Binds w ob293 [.ref r] [("reader", .ref r)] := .plain rfl
  refine wpAny_call ?_
  k_dflt ktr_enter
  k_steps
  rename_i tk9 D9 h91 l19 h92 h93 F9 N9
  refine Hold.mk ?_
  refine whl_ind (I := fun (ys : List Row) h tk => ArgsInv g' L' news r tds (p + (rowsToks xs).length) (rowsDat "reference" xs) D9 ys h) (lt := fun ys => ys.length) ?_ 0 xs _ _ ?_
  rotate_left
  · have F9' : Fr g' L' h93 (argMap r D9 "reference" tk none) := by
      refine Fr.congr F9 ?_
      intro y
      by_cases h : y = "operand"
      · subst h; rfl
      · simp only [argMap, if_neg h]
    exact ⟨_, _, _, p, _, _, none, [], F9', N9, .head _, .nil, RS.sub1 hR, fun q hq _ _ => List.mem_cons_of_mem _ hq, Tb.cons hTb, .inl rfl, hx, hS, hN, hok, rfl, by simp; omega, rfl, .inl rfl, rfl⟩
  clear F9 N9
  intro k ys h9 tk9 hI IH
  obtain ⟨nw, its, n', p', mo, mt, ov, done, F8, N8, hD, hdone, hR8, hK8, hT8, hmo, hx8, hS8, hN8, hok8, hfull, hsz, hEnd, hNT, hnl⟩ := hI
  cases ys with
  | nil => exact absurd rfl hx8
  | cons x ys =>
  obtain ⟨pre, o⟩ := x
  have hSp : Seg tds p' pre.toks := hS8.left.left
  have hSo : Seg tds (p' + pre.toks.length) o.toks := hS8.left.right
  have hSr := hS8.right
  obtain ⟨q, hq⟩ : ∃ q, p' + pre.toks.length = q := ⟨_, rfl⟩
  obtain ⟨q2, hq2⟩ : ∃ q2, q + o.toks.length = q2 := ⟨_, rfl⟩
  have e2 : p' + (rowToks (pre, o)).length = q2 := by simp only [rowToks, List.length_append]; omega
  have e3 : p' + (rowsToks ((pre, o) :: ys)).length = q2 + (rowsToks ys).length := by simp only [rowsToks, List.length_append]; omega
  rw [hq] at hSo
  rw [e2] at hSr
  rw [e3] at hN8 hEnd
  have hNo : NextOk tds q2 := rows_ok hSr hN8
  have hB : beginsAt tds q = true := begins_op o hSo
  have hno : pre = .no → KeyNo tds p' := by
    rintro rfl
    exact op_key o hS8.left
  have hm := Pre.isMode hmo pre
  have hok1 := hok8.1
  have hok2 := hok8.2
  have hl9 : its.size ≤ sizeLine := by rw [sizeLine_eq]; simp at hsz; omega
  refine RS.elim hR8 fun rd tl e t nv n h1' h2' => ?_
  have hpos : 0 < tds.length := begins_pos hB
  have hne : pre.mode mo = "reference" → (o.tag != ("ref" : PySem.Str)) = false := fun h => by rw [Op.tag_ref (hok1 h)]; decide +kernel
  refine whl_turn ?hE ?_
  (case hE => first | passes_own | with_unfolding_all passes_own)
  rcases hm with hm | hm
  · have hne := hne hm
    k_steps
    iterate 4
      · refine Hold.mk (IH ys _ _ (Nat.lt_succ_self _) ?_)
        rename Fr _ _ _ _ => F7
        refine ⟨_, _, _, q2, "reference", _, some _, done ++ [.tuple [.str "reference", o.dat]], amap_step F7, by k_asm, by assumption, DatAll.push (by walk_at "DatAll") (.tuple (butC_at (by assumption) tup_nl (.head _)) (.cons (.str _ _) (.cons (by walk_at "Dat") .nil))), by walk_at "RS", by walk_at "KeepT", by walk_at "Tb", .inl rfl, ?_, hSr, hN8, hm ▸ hok2, ?_, ?_, hEnd, NoToks.push hNT (by walk_at "Tups") (ws := [.str _ _, .ref _]) (butC_at (by assumption) tup_nl (.head _)), noLs_app hnl (by simp [noLs, noL, Op.noL])⟩
        · first | exact rows_next hSr hN8 (.inl (by assumption)) | exact rows_next hSr hN8 (.inr (.inl (by assumption))) | exact rows_next hSr hN8 (.inr (.inr (.inl (by assumption)))) | exact rows_next hSr hN8 (.inr (.inr (.inr (by assumption))))
        · rw [← hfull, List.append_assoc]
          simp only [rowsDat, hm]
          rfl
        · simp only [List.length_cons] at hsz
          rw [Array.size_push]
          omega
    · have hys := rows_stop hSr (by assumption) (by assumption) (by assumption) (by assumption)
      subst hys
      have hfull' : done ++ [.tuple [.str "reference", o.dat]] = rowsDat "reference" xs := by
        rw [← hfull]
        simp only [rowsDat, hm]
      have hEnd' : q2 = p + (rowsToks xs).length := hEnd
      subst hEnd'
      refine hret _ _ _ _ (by k_asm) (by k_asm) ⟨?_, by walk_at "RS", by walk_at "KeepT", by walk_at "Tb"⟩
      rw [← hfull']
      exact .tuple (by k_mem) (DatAll.push (by walk_at "DatAll") (.tuple (.tail _ (butC_at (by assumption) tup_nl (.head _))) (.cons (.str _ _) (.cons (by walk_at "Dat") .nil))))
  · k_steps
    iterate 4
      · refine Hold.mk (IH ys _ _ (Nat.lt_succ_self _) ?_)
        rename Fr _ _ _ _ => F7
        refine ⟨_, _, _, q2, "content", _, some _, done ++ [.tuple [.str "content", o.dat]], amap_step F7, by k_asm, by assumption, DatAll.push (by walk_at "DatAll") (.tuple (butC_at (by assumption) tup_nl (.head _)) (.cons (.str _ _) (.cons (by walk_at "Dat") .nil))), by walk_at "RS", by walk_at "KeepT", by walk_at "Tb", .inr rfl, ?_, hSr, hN8, hm ▸ hok2, ?_, ?_, hEnd, NoToks.push hNT (by walk_at "Tups") (ws := [.str _ _, .ref _]) (butC_at (by assumption) tup_nl (.head _)), noLs_app hnl (by simp [noLs, noL, Op.noL])⟩
        · first | exact rows_next hSr hN8 (.inl (by assumption)) | exact rows_next hSr hN8 (.inr (.inl (by assumption))) | exact rows_next hSr hN8 (.inr (.inr (.inl (by assumption)))) | exact rows_next hSr hN8 (.inr (.inr (.inr (by assumption))))
        · rw [← hfull, List.append_assoc]
          simp only [rowsDat, hm]
          rfl
        · simp only [List.length_cons] at hsz
          rw [Array.size_push]
          omega
    · have hys := rows_stop hSr (by assumption) (by assumption) (by assumption) (by assumption)
      subst hys
      have hfull' : done ++ [.tuple [.str "content", o.dat]] = rowsDat "reference" xs := by
        rw [← hfull]
        simp only [rowsDat, hm]
      have hEnd' : q2 = p + (rowsToks xs).length := hEnd
      subst hEnd'
      refine hret _ _ _ _ (by k_asm) (by k_asm) ⟨?_, by walk_at "RS", by walk_at "KeepT", by walk_at "Tb"⟩
      rw [← hfull']
      exact .tuple (by k_mem) (DatAll.push (by walk_at "DatAll") (.tuple (.tail _ (butC_at (by assumption) tup_nl (.head _))) (.cons (.str _ _) (.cons (by walk_at "Dat") .nil))))
end Mine
end

section
open PySem PySem.W PyProof.Rows
set_option maxRecDepth 100000
namespace Mine
theorem reg_Rb_0 : True := by
  k_with_none
  (k_with "room" => (first | exact room_le (by assumption) rfl rfl | ktr_room | ktr_units))
  (k_with "room0" => (first | exact room_lt (by assumption) rfl | ktr_room | (simp only [A9, depth_under_make, depth_deeper]; omega)))
  (k_with "sR" => (simp only [Int.reduceAdd, Int.reduceToNat, Nat.add_zero, Nat.zero_add, Nat.add_assoc, Nat.reduceAdd] at hR'))
  (k_with "sB" => (simp only [Int.reduceAdd, Int.reduceToNat, Nat.add_zero, Nat.zero_add, Nat.add_assoc, Nat.reduceAdd] at hb'))
  (k_with "fold" => ((fail_if_success (fail_if_success k_fold)); refine' (let qk := _; (?_ : wpAny _ _ _ qk _ _))))
  (k_with "nextQ" => (first | with_reducible refine nextQ_next ?_ | with_reducible refine nextQ_ret ?_ | with_reducible refine nextQ_brk ?_ | with_reducible refine nextQ_cont ?_))
  (k_with "outQ" => (first | with_reducible refine outQ_ret ?_ | with_reducible refine outQ_next ?_))
  (k_with "outE" => (with_reducible refine outE_go ?_))
  (k_with "resR" => (first | with_reducible refine resR_ret ?_ | with_reducible refine resR_err ?_))
  (k_with "rdM" => (first | exact rdM_365 rfl X | exact rdM_379 rfl X | exact rdM_386 rfl X | exact rdM_394 rfl X | exact rdM_401 rfl X | exact rdM_408 rfl X | exact rdM_415 rfl X | exact rdM_422 rfl X | exact rdM_437 rfl X | exact rdM_444 rfl X | exact rdM_459 rfl X | exact rdM_466 rfl X | exact rdM_473 rfl X | exact rdM_480 rfl X | exact rdM_487 rfl X | exact rdM_508 rfl X))
  (k_with "fnM" => (first | exact fnM_29 rfl X | exact fnM_36 rfl X | exact fnM_50 rfl X | exact fnM_57 rfl X | exact fnM_64 rfl X | exact fnM_71 rfl X | exact fnM_139 rfl X | exact fnM_181 rfl X | exact fnM_174 rfl X | exact fnM_188 rfl X | exact fnM_195 rfl X | exact fnM_202 rfl X | exact fnM_209 rfl X | exact fnM_216 rfl X | exact fnM_230 rfl X | exact fnM_237 rfl X | exact fnM_244 rfl X | exact fnM_251 rfl X | exact fnM_258 rfl X | exact fnM_265 rfl X | exact fnM_272 rfl X | exact fnM_279 rfl X | exact fnM_286 rfl X | exact fnM_293 rfl X | exact fnM_300 rfl X | exact fnM_337 rfl X | exact fnM_342 rfl X | exact fnM_522 rfl X | exact fnM_527 rfl X | exact fnM_547 rfl X | exact fnM_561 rfl X | exact fnM_568 rfl X | exact fnM_582 rfl X | exact fnM_610 rfl X))
  (k_with "newTuple" => (walk_at "nt on"; k_here; kup_bare; k_dflt (refine' kup_newTuple ?F ?N ?_ ?z; (case F => k_asm); (case N => k_asm); (case z => kmk_size)); refine' (fun D' h' => let nn9 : Led := _; fun F' (N' : News _ _ _ nn9) l1 => ?_); (try k_lt l1); (try k_sweep)))
  (k_with "newList" => (walk_at "nt on"; k_here; k_dflt (refine' newList_K ?k1 ?k2 ?_; (case k1 => k_asm); (case k2 => k_asm); k_whole); refine' (fun l' h' => let nn9 : Led := _; fun F' (N' : News _ _ _ nn9) l1 => ?_); (try k_lt l1); (try k_sweep)))
  (k_with "storeName" => (k_here; with_reducible (refine' storeV ?k1 ?k2 ?hV ?hx ?_; (case hV => assumption); k_dflt ((case k1 => k_asm); (case k2 => k_asm); (case hx => exact rfl); k_whole)); refine' (let mm9 : PySem.Str → Option Value := _; fun h' (F' : Fr _ _ h' mm9) N' => ?_); (try k_sweep)))
  (k_with "spliced" => (k_here; (with_reducible show wpAny _ _ (spliced (backTo _ (starEach (_ :: _) _))) _ _ _); with_reducible (refine' argsV ?k1 ?hV ?hv ?_; (case hV => assumption); k_dflt ((case k1 => k_asm); (case hv => first | exact rfl | with_unfolding_all rfl); k_whole))))
  (k_with "eval Name" => (k_here; with_reducible (refine' nameV ?k1 ?hV ?hv ?_; (case hV => assumption); k_dflt ((case k1 => k_asm); (case hv => first | exact rfl | with_unfolding_all rfl); k_whole))))
  (k_with "eval Call" => (k_here; (with_reducible show wpAny _ _ (eval (Expr.Call (Expr.Name _ _) _ [] _) _) _ _ _); (try walk_at "fold"); with_reducible (refine' fcall ?k1 ?k2 ?k3 ?hV ?hx ?hM ?hv ?_; (case hM => walk_at "fnM"); (case hV => assumption); k_dflt ((case hx => exact rfl); (case k1 => k_asm); (case k2 => k_asm); (case k3 => k_asm); (case hv => first | exact rfl | with_unfolding_all rfl); k_whole))))
  (k_with "eval Call Attribute" => (k_here; (with_reducible show wpAny _ _ (eval (Expr.Call (Expr.Attribute (Expr.Name _ _) _ _) _ [] _) _) _ _ _); (try walk_at "fold"); with_reducible (refine' mcall ?k1 ?k2 ?k3 ?hV ?hv ?hR ?hM ?he ?_; (case hM => walk_at "rdM"); (case hV => assumption); k_dflt ((case k1 => k_asm); (case k2 => k_asm); (case k3 => k_asm); (case hv => first | exact rfl | with_unfolding_all rfl); (case hR => walk_at "RS"); (case he => exact rfl); k_whole))))
  (k_with "nt on" => ((fail_if_success walk_at "off_Rb"); (skip)))
  (k_with "getMethod ref" => (k_here; k_dflt (refine' rd_method ?k1 ?k2 ?k3 ?k4 ?k5 ?k6 ?k7 ?k8 ?_; (case k1 => k_asm); (case k2 => k_asm); (case k3 => k_asm); (case k4 => walk_at "RS"); (case k5 => k_is); (case k6 => k_is); (case k7 => k_is); (case k8 => decide); k_whole)))
  (k_with "execs cons" => (k_here; first | (with_reducible refine execs1 ?_) | (refine execsV ?_; walk_at "fold")))
  (k_with "ktr_enter" => (refine' code_def ?k1 ?k2 ?k3 ?k4 ?k5 ?kA ?kF ?kK ?k6 ?k7 ?k8 ?k9 ?kB ?_ ?c2 ?c3 ?c4 ?c5; (case kA => exact rfl); (case kF => exact rfl); (case kK => assumption); (case k1 => k_asm); (case k2 => k_asm); (case k3 => k_asm); (case k4 => k_asm); (case k5 => k_asm); (case k6 => k_is); (case k7 => k_is); (case k8 => walk_at "room0"); (case k9 => (rename Binds _ _ _ _ => hbX; exact hbX _ (by k_in))); (case c5 => decide); (case kB => exact locs rfl); (case c2 => exact rfl); (case c3 => exact rfl); (case c4 => exact rfl); k_whole; intro g' L' h' FG'; refine' (let mm9 : PySem.Str → Option Value := _; fun (F' : Fr _ _ _ mm9) N' B' X' T' => ?_); (try dsimp only); refine' (let e9 : PySem.Env := _; let A9 : PySem.Around := PySem.Around.deeper _ e9; let rk := resR _ _; let qk := outQ _ _ _ _ rk; let ek := outE _ A9 e9 rk; (?_ : wpAny _ A9 (execs _ e9) qk ek _)); (have hV9 : FnEnv e9 _ := FnEnv.of (by exact rfl))))
  (k_with "k_mem" => first | ((show _ ∈ _); ktr_member) | exact List.Mem.head _ | (refine' List.mem_cons_of_mem _ ?_; k_mem))
  (k_with "k_mem" => first | ((show _ ∈ _); ktr_member) | exact List.Mem.head _ | (refine' List.mem_cons_of_mem _ ?_; k_mem) | (refine sub_at (by assumption) ?_; k_mem) | (refine keep_at (by assumption) (by first | rfl | decide +kernel) ?_; k_mem) | (refine butC_at (by assumption) tup_nl ?_; k_mem))
  (k_with "k_mem" => first | ((show _ ∈ _); ktr_member) | exact List.Mem.head _ | (refine' List.mem_cons_of_mem _ ?_; k_mem) | (refine sub_at (by assumption) ?_; k_mem) | (refine keep_at (by assumption) (by first | rfl | decide +kernel) ?_; k_mem) | (refine keepT_at (by assumption) rfl (fun z => nomatch z) ?_; k_mem) | (refine tab_at (by assumption) (fun z => nomatch z) ?_; k_mem) | (refine butC_at (by assumption) tup_nl ?_; k_mem))
  (k_with "RS" => first | assumption | exact RS.sub1 (by assumption) | exact RS.sub1 (RS.sub1 (by assumption)) | exact RS.sub1 (RS.sub1 (RS.sub1 (by assumption))) | exact RS.sub1 (RS.sub1 (RS.sub1 (RS.sub1 (by assumption)))) | exact RS.sub1 (RS.sub1 (RS.sub1 (RS.sub1 (RS.sub1 (by assumption))))) | exact RS.sub1 (RS.sub1 (RS.sub1 (RS.sub1 (RS.sub1 (RS.sub1 (by assumption)))))))
  (k_with "gotn" => (first | ((fail_if_success (intro v' n' h' tk' F' N' hv'; simp only [Int.reduceAdd, Int.reduceToNat, Nat.add_zero, Nat.zero_add, Nat.add_assoc, Nat.reduceAdd] at hv')); first | (with_reducible refine got_v ?_; intro h' tk' F' N') | (with_reducible refine' got_pk ?ho ?_; (case ho => with_reducible assumption); intro x' dx' ta' t1' t2' tn' e' tt' nn' h' tk' F' N' hx' hdx' hta') | (with_reducible refine got_pn ?ho ?_; (case ho => with_reducible assumption); intro h' tk' F' N') | (with_reducible refine got_ps ?hn ?_; (case hn => exact (fun h9 => no_kind h9 (by with_reducible assumption))); intro td' x' dx' ta' t1' t2' tn' e' tt' nn' h' tk' F' N' ht' hx' hdx' hta') | (with_reducible refine got_p2 (fun ht' h' tk' F' N' => ?_) (fun td' x' dx' ta' t1' t2' tn' e' tt' nn' h' tk' F' N' ht' hx' hdx' hta' => ?_)) | (with_reducible refine got_x ?_; intro t' h' tk' F' N')) | (with_reducible refine got_tk ?_; intro x' dx' ta' t1' t2' tn' e' tt' nn' n' h' tk' F' N' hR' hK' hx' hdx' hta'; (try walk_at "sR")) | (with_reducible refine got_xm ?_; intro t' n' h' tk' F' N' hR' hK'; (try walk_at "sR")) | (with_reducible refine got_vm ?_; intro n' h' tk' F' N' hR' hK'; (try walk_at "sR")) | (with_reducible refine got_skF ?hn ?_; (case hn => first | exact (fun h9 => no_bool h9 (by assumption)) | exact (fun h9 => no_tokIs (by assumption) h9 (by first | rfl | decide))); intro hb' h' tk' F' N'; (try walk_at "sB")) | (with_reducible refine got_skT ?hn ?_; (case hn => first | exact (fun h9 => no_bool (by assumption) h9) | exact (fun h9 => no_tokIs' (by assumption) h9 (by first | rfl | decide))); intro hb' n' h' tk' F' N' hR' hK'; (try walk_at "sR"); (try walk_at "sB")) | ((with_reducible refine got_sk (fun hb' n' h' tk' F' N' hR' hK' => ?_) (fun hb' h' tk' F' N' => ?_)) <;> ((try walk_at "sR"); (try walk_at "sB"))) | (refine got_xs ?_; intro t' n' h' tk' F' N' hs'; (fail_if_success (have h9 := And.left hs')); (try (have hR' := RS.sub (by walk_at "RS") hs'))) | (refine got_tp ?_; intro a' t1' t2' n' h' tk' F' N' hm' hs'; (fail_if_success (have h9 := And.left hs')); (try (have hR' := RS.sub (by walk_at "RS") hs')))))
  (k_with "got" => (first | walk_at "gotn" | (intro v' n' h' tk' F' N' hv'; simp only [Int.reduceAdd, Int.reduceToNat, Nat.add_zero, Nat.zero_add, Nat.add_assoc, Nat.reduceAdd] at hv'; revert v' n' h' tk' F' N' hv'; walk_at "gotn") | (intro v' n' h' tk' F' N' hv'; (try simp only [Int.reduceAdd, Int.reduceToNat, Nat.add_zero, Nat.zero_add, Nat.add_assoc, Nat.reduceAdd] at hv'); revert hv'; walk_at "got more")))
  (k_with "call ref" => (k_here; (with_reducible show wpAny _ _ (call (Value.ref _) _) _ _ _); (try walk_at "fold"); k_dflt (refine' Does.use0 ?H ?k1 ?k2 ?k3 ?k4 ?k5 ?k6 ?kd ?ku ?_; (case k1 => k_asm); (case k2 => k_asm); (case k3 => k_asm); (case k4 => k_asm); (case k5 => k_asm); (case H => ((try dsimp only [List.cons_append, List.nil_append]); walk_at "does")); (case k6 => first | rfl | assumption); (case kd => walk_at "room"); (case ku => walk_at "room"); k_whole); k_dflt (walk_at "got")))
  (k_with "DatAll" => ((fail_if_success walk_at "off_Rb"); first | assumption | (refine DatAll.mono (fun _ h9 => List.mem_cons_of_mem _ h9) ?_; walk_at "DatAll") | (refine DatAll.keep (by assumption) ?_; walk_at "DatAll") | (refine DatAll.keepT (by assumption) ?_; walk_at "DatAll") | (refine DatAll.butC (by assumption) ?_ (by assumption); walk_at "DatAll")))
  (k_with "Tups" => ((fail_if_success walk_at "off_Rb"); (intro y9 v9 n9 h9; repeat' (first | exact h9 | refine butC_at (by assumption) tup_nl ?_ | refine List.mem_cons_of_mem _ ?_ | refine keepT_at (by assumption) rfl (fun z => nomatch z) ?_ | refine keep_at (by assumption) rfl ?_))))
  (k_with "Keep" => (intro q9 hq9 hi9; repeat' (first | exact hq9 | refine sub_at (by assumption) ?_ | refine keep_at (by assumption) hi9 ?_ | refine List.mem_cons_of_mem _ ?_ | refine but_at (by assumption) ?_ ?_ | refine ne_lt (by assumption) ?_ | refine ne_all (by first | assumption | exact And.right (by assumption)) ?_)))
  (k_with "Tb" => first | assumption | (refine Tb.keep ?_ (by assumption); walk_at "Tb") | (refine Tb.cons ?_; walk_at "Tb") | (refine Tb.sub ?_ (by assumption); walk_at "Tb") | (refine Tb.butC ?_ (by assumption); walk_at "Tb"))
  (k_with "KeepT" => (intro q9 hq9 hi9 hn9; repeat' (first | exact hq9 | refine sub_at (by assumption) ?_ | refine keep_at (by assumption) hi9 ?_ | refine keepT_at (by assumption) hi9 hn9 ?_ | refine tab_at (by assumption) hn9 ?_ | refine List.mem_cons_of_mem _ ?_ | refine but_at (by assumption) ?_ ?_ | refine ne_lt (by assumption) ?_ | refine ne_all (by first | assumption | exact And.right (by assumption)) ?_)))
  (k_with "Dat" => ((fail_if_success walk_at "off_Rb"); first | assumption | (refine DatIn.mono (fun _ h9 => List.mem_cons_of_mem _ h9) ?_; walk_at "Dat") | (refine DatIn.keep (by assumption) ?_; walk_at "Dat") | (refine DatIn.keepT (by assumption) ?_; walk_at "Dat") | (refine DatIn.butC (by assumption) ?_ (by first | rfl | exact Op.noL _ | assumption); walk_at "Dat") | (refine DatIn.mono (by assumption) ?_; walk_at "Dat")))
  (k_with "got more" => (intro hv'; obtain ⟨hp', hs'⟩ := hv'; (first | (obtain ⟨t', hv'⟩ := hp'; subst hv') | (obtain ⟨a', t1', t2', hv', hm'⟩ := hp'; subst hv')); (try (have hR' := RS.sub (by walk_at "RS") hs'))))
  (k_with "got more" => ((fail_if_success walk_at "off_Rb"); (intro hv'; obtain ⟨hp', hR', hK', hT'⟩ := hv'; (have hd' : DatIn _ _ (Op.dat _) := hp'); obtain ⟨a', t1', vs', k', hv', hm', hl'⟩ := Op.head _ hp'; subst hv')))
  (k_with "got more" => ((fail_if_success walk_at "off_Rb"); (intro hv'; obtain ⟨⟨e', hv', hne', hF'⟩, hR', hK'⟩ := hv'; subst hv'; (have hne9 : NotHere _ _ := hne'))))
  (k_with "subscriptTail" => ((fail_if_success walk_at "off_Rb"); (k_here; (with_reducible show wpAny _ _ (subscriptTail _ _ (Value.ref _) (Value.int _ _)) _ _ _); k_dflt (refine' tup0_led ?k1 ?k2 ?k3 ?_ ?k6; (case k1 => k_asm); (case k2 => k_mem); (case k3 => assumption); (case k6 => with_unfolding_all rfl); k_whole))))
  (k_with "call builtin:list.append" => (k_here; (with_reducible show wpAny _ _ (call (Value.builtin _) [Value.ref _, _]) _ _ _); (rename News _ _ _ _ => lN'); k_dflt (refine' append_led ?k1 ?k2 ?k3 ?k4 ?_; (case k1 => k_asm); (case k2 => exact lN'); (case k3 => k_mem); (case k4 => first | exact Nat.le_of_ble_eq_true rfl | assumption | (simp only [List.size_toArray]; omega)); k_whole); intro h' n' F' N' hm' hb' ho' hc'; (try (k_dflt (have hR' := RS.but lN' (by walk_at "RS") ho' (by first | assumption | exact len_pos (by assumption)) (by first | exact .inl rfl | assumption | exact .inr ⟨_, _, _, rfl, by k_mem⟩ | exact NoToks.up (by assumption) (by walk_at "Tups")) hb')))))
  (k_with "exec While" => (k_here; k_dflt (refine whl_start 100 ?_)))
  (k_with "exec While BoolOp" => (k_here; k_dflt (refine whl_start 100 ?_)))
  (k_with "exec While Compare" => (k_here; k_dflt (refine whl_start 100 ?_)))
  (k_with "exec Raise" => ((fail_if_success walk_at "off_Rb"); (k_here; k_dflt (refine raise_valV (by first | rfl | assumption) ?_))))
  (k_with "exec Raise some none" => ((fail_if_success walk_at "off_Rb"); (k_here; k_dflt (refine raise_valV (by first | rfl | assumption) ?_))))
  (k_with "does" => ((fail_if_success walk_at "off_Rb"); first | with_reducible exact mode_at _ _ _ _ _ (by walk_at "RS") _ _ _ _ (by assumption) (by assumption) (by assumption) _ (by assumption)))
  (k_with "does" => ((fail_if_success walk_at "off_Rb"); first | with_reducible exact mode_no _ _ _ _ _ (by walk_at "RS") _ (by assumption) (by assumption) (by assumption)))
  (k_with "does" => ((fail_if_success walk_at "off_Rb"); first | with_reducible exact op_at _ _ _ _ _ (by walk_at "RS") (by assumption) _ (by assumption) _ (by assumption) (by assumption) (by walk_at "Tb")))
  (k_with "does" => ((fail_if_success walk_at "off_Rb"); first | with_reducible exact begins_does _ _ _ _ _ (by walk_at "RS") (by assumption)))
  (k_with "does" => first | with_reducible exact is_word_does _ _ _ _ _ _ _ (by walk_at "RS") (by first | assumption | exact ⟨by decide +kernel, by decide⟩))
  (k_with "does" => ((fail_if_success walk_at "off_Rb"); first | with_reducible exact fault_does _ _ _ _ _ _ _ (by walk_at "RS") (by assumption)))
  trivial
set_option maxHeartbeats 8000000 in
theorem args_miss (w : World) (r : Addr) (news : Led) (tds : Tds) (p : Nat) (hR : RS news r tds p) (hlen : Short tds) (k0 : tokIs tds p "word" "BY" = false) (k1 : tokIs tds p "word" "REFERENCE" = false) (k2 : tokIs tds p "word" "CONTENT" = false) (hb0 : beginsAt tds p = false) (hp : p < tds.length) (hTb : Tb news) :
    RaisesT w 293 [.ref r] 360 4400 news p := by
  refine RS.elim hR fun rd tl e t nv n h1' h2' => ?_
  unfold RaisesT
  k_fill
  intro _ dp un gd cn cs a ccd cl outer A₀ base h₀ L m mg mb mean s Q E B F X N T hk hd hu herr
  have hb : Binds w ob293 [.ref r] [("reader", .ref r)] := .plain rfl
  refine wpAny_call ?_
  k_dflt ktr_enter
  k_steps
  rename FaultAt _ _ _ => hF9
  rename Fr _ _ _ _ => F9
  rename News _ _ _ _ => N9
  rename Below _ _ _ _ => B9
  rename NotHere _ _ => ne9
  rename Keep _ _ => K9
  refine raise_out B9 F9 N9 (by assumption) hF9 (fun h9 n9 m9 R9 => ?_) ?_ ?_ ?_
  rotate_left
  · exact Around.frames_deeper B9.stack
  · rfl
  · exact fun z => nomatch z
  exact herr _ _ _ _ _ (by assumption) (KeepT.out (by walk_at "KeepT") K9 ne9 m9) (Tb.out (by walk_at "Tb") K9 ne9 m9) R9
theorem reg_Rb_1 : True := by
  (k_with "raises" => ((fail_if_success walk_at "off_Rb"); first | with_reducible exact mode_raises _ _ _ _ _ (by walk_at "RS") _ (by assumption) (by assumption) (by assumption) (by assumption) (by walk_at "Tb")))
  (k_with "call ref" => ((fail_if_success walk_at "off_Rb"); (k_here; (with_reducible show wpAny _ _ (call (Value.ref _) _) _ _ _); (try walk_at "fold"); k_dflt (refine' RaisesT.use ?H ?k1 ?k2 ?k3 ?k4 ?k5 ?k6 ?kd ?ku ?_; (case k1 => k_asm); (case k2 => k_asm); (case k3 => k_asm); (case k4 => k_asm); (case k5 => k_asm); (case H => ((try dsimp only [List.cons_append, List.nil_append]); walk_at "raises")); (case k6 => first | rfl | assumption); (case kd => walk_at "room"); (case ku => walk_at "room"); refine Hold.out ?_))))
  trivial
set_option maxHeartbeats 8000000 in
theorem args_by (w : World) (r : Addr) (news : Led) (tds : Tds) (p : Nat) (hR : RS news r tds p) (hlen : Short tds) (o : Op) (hr : o.isRef = true) (hS : Seg tds p o.toks) (q : Nat) (hq : p + o.toks.length = q) (hNo : NextOk tds q) (hne : (o.tag != ("ref" : PySem.Str)) = false) (k0 : tokIs tds p "word" "BY" = false) (k1 : tokIs tds p "word" "REFERENCE" = false) (k2 : tokIs tds p "word" "CONTENT" = false) (hb0 : beginsAt tds p = true) (hb1 : beginsAt tds q = false) (hby : tokIs tds q "word" "BY" = true) (hr1 : tokIs tds (q + 1) "word" "REFERENCE" = false) (hc1 : tokIs tds (q + 1) "word" "CONTENT" = false) (hp1 : q + 1 < tds.length) (hpos : 0 < tds.length) (hTb : Tb news) :
    RaisesT w 293 [.ref r] 360 4400 news (q + 1) := by
  refine RS.elim hR fun rd tl e t nv n h1' h2' => ?_
  unfold RaisesT
  k_fill
  intro _ dp un gd cn cs a ccd cl outer A₀ base h₀ L m mg mb mean s Q E B F X N T hk hd hu herr
  have hb : Binds w ob293 [.ref r] [("reader", .ref r)] := .plain rfl
  refine wpAny_call ?_
  k_dflt ktr_enter
  k_steps
  refine Hold.mk ?_
  rename Below _ _ _ _ => B9
  intro e9 G9 n9 h9 tk9 F9 K9 T9 R9
  refine leave_next ?_ ?_ B9 F9 R9 (fun h8 R8 => ?_)
  · exact Around.frames_deeper B9.stack
  · rfl
  exact herr _ _ _ _ _ (by assumption) (KeepT.trans (by walk_at "KeepT") K9) T9 R8
set_option maxHeartbeats 8000000 in
theorem args_lit (w : World) (r : Addr) (news : Led) (tds : Tds) (p : Nat) (hR : RS news r tds p) (hlen : Short tds) (pre1 pre2 : Pre) (o1 o2 : Op) (q1 q2 q3 q4 : Nat) (hm1 : pre1.mode "reference" = "content") (hm2 : pre2.mode "content" = "reference") (hS1 : Seg tds p pre1.toks) (hno1 : pre1 = .no → KeyNo tds p) (hq1 : p + pre1.toks.length = q1) (hB1 : beginsAt tds q1 = true) (hS2 : Seg tds q1 o1.toks) (hq2 : q1 + o1.toks.length = q2) (hN2 : NextOk tds q2) (hb2 : beginsAt tds q2 = false) (hby : tokIs tds q2 "word" "BY" = true) (hS3 : Seg tds q2 pre2.toks) (hno3 : pre2 = .no → KeyNo tds q2) (hq3 : q2 + pre2.toks.length = q3) (hB3 : beginsAt tds q3 = true) (hS4 : Seg tds q3 o2.toks) (hq4 : q3 + o2.toks.length = q4) (hN4 : NextOk tds q4) (hne : (o2.tag != ("ref" : PySem.Str)) = true) (hp4 : q4 < tds.length) (hpos : 0 < tds.length) (hTb : Tb news) :
    RaisesT w 293 [.ref r] 360 4400 news q4 := by
  refine RS.elim hR fun rd tl e t nv n h1' h2' => ?_
  unfold RaisesT
  k_fill
  intro _ dp un gd cn cs a ccd cl outer A₀ base h₀ L m mg mb mean s Q E B F X N T hk hd hu herr
  have hb : Binds w ob293 [.ref r] [("reader", .ref r)] := .plain rfl
  refine wpAny_call ?_
  k_dflt ktr_enter
  k_steps
  rename FaultAt _ _ _ => hF9
  rename Fr _ _ _ _ => F9
  rename News _ _ _ _ => N9
  rename Below _ _ _ _ => B9
  rename NotHere _ _ => ne9
  rename Keep _ _ => K9
  refine raise_out B9 F9 N9 (by assumption) hF9 (fun h9 n9 m9 R9 => ?_) ?_ ?_ ?_
  rotate_left
  · exact Around.frames_deeper B9.stack
  · rfl
  · exact fun z => nomatch z
  exact herr _ _ _ _ _ (by assumption) (KeepT.out (by walk_at "KeepT") K9 ne9 m9) (Tb.out (by walk_at "Tb") K9 ne9 m9) R9
end Mine
theorem off_Rb : True := by
  (k_with "off_Rb" => skip)
  trivial
end

section
open PySem PySem.W PyProof.Rows PySem.Calls PySem.Spec
set_option maxRecDepth 100000
namespace Mine
def ButIt (a b : Led) : Prop := ∀ q ∈ a, q.2.cls ≠ .type "tuple_iterator" → q.2.cls ≠ .type "range_iterator" → q ∈ b
theorem butIt_at {a b : Led} (h : ButIt a b) {q : Addr × Obj} (n1 : q.2.cls ≠ .type "tuple_iterator") (n2 : q.2.cls ≠ .type "range_iterator") (hq : q ∈ a) : q ∈ b := h q hq n1 n2
theorem ty_ne {a b : String} (h : a ≠ b) : Value.type a ≠ .type b := fun z => h (Value.type.inj z)
theorem TokAt.butIt {a b : Led} {x : Addr} {i : Nat} {td : PySem.Str × PySem.Str} (h : TokAt a x i td) (k : ButIt a b) : TokAt b x i td := by
  obtain ⟨dx, ta, t1, t2, tn, e, t, n, x1, x2, x3⟩ := h
  exact ⟨dx, ta, t1, t2, tn, e, t, n, k _ x1 (fun z => nomatch z) (fun z => nomatch z), k _ x2 (ty_ne (by decide)) (ty_ne (by decide)), k _ x3 (ty_ne (by decide)) (ty_ne (by decide))⟩
theorem RS.butIt {a b : Led} {r : Addr} {tds : Tds} {p : Nat} (h : RS a r tds p) (k : ButIt a b) : RS b r tds p := by
  obtain ⟨rd, tl, toks, e, t, nv, n, ln, h1, h2, h3, hl, hz, ht⟩ := h
  exact ⟨rd, tl, toks, e, t, nv, n, ln, k _ h1 (fun z => nomatch z) (fun z => nomatch z), k _ h2 (ty_ne (by decide)) (ty_ne (by decide)), k _ h3 (ty_ne (by decide)) (ty_ne (by decide)), hl, hz, fun i td hi => let ⟨x, p, q⟩ := ht i td hi; ⟨x, p, q.butIt k⟩⟩
theorem Tb.butIt {a b : Led} (h : Tb a) (k : ButIt a b) : Tb b := h.elim (fun x => .inl (k _ x (fun z => nomatch z) (fun z => nomatch z))) fun ⟨c, x⟩ => .inr ⟨c, k _ x (fun z => nomatch z) (fun z => nomatch z)⟩
mutual
theorem DatIn.butIt {a b : Led} (k : ButIt a b) : ∀ {v : Value} {d : Dat}, DatIn a v d → DatIn b v d
  | _, _, .none => .none
  | _, _, .bool x => .bool x
  | _, _, .int i t => .int i t
  | _, _, .str x t => .str x t
  | _, _, .bytes x t => .bytes x t
  | _, _, .tuple hm r => .tuple (k _ hm (ty_ne (by decide)) (ty_ne (by decide))) (DatAll.butIt k r)
  | _, _, .list hm r => .list (k _ hm (ty_ne (by decide)) (ty_ne (by decide))) (DatAll.butIt k r)
theorem DatAll.butIt {a b : Led} (k : ButIt a b) : ∀ {vs : List Value} {ds : List Dat}, DatAll a vs ds → DatAll b vs ds
  | _, _, .nil => .nil
  | _, _, .cons h r => .cons (DatIn.butIt k h) (DatAll.butIt k r)
end
theorem isRd_cls {o : Obj} {c : String} (h : o.cls = .type c) : isRd o = false ∨ True := .inr trivial
theorem it_nl {o : Obj} (h : o.cls = .type "tuple_iterator") : o.cls ≠ .type "list" := fun z => ty_ne (by decide) (h.symm.trans z)
theorem it_nr {o : Obj} (h : o.cls = .type "tuple_iterator") : o.cls ≠ .type "range_iterator" := fun z => ty_ne (by decide) (h.symm.trans z)
theorem it_nn {o : Obj} (h : o.cls = .type "tuple_iterator") : o.cls ≠ .none := fun z => nomatch (h.symm.trans z)
theorem unrEnd_g {h₀ : Heap} {L I : Addr} {it : Obj} {rest : (PySem.Str → Option Value) → Led → Prop} {s₁ : Shared} {h' : Heap} {tk : Nat} {m' : PySem.Str → Option Value} {all : Led} (F : Fr h₀ L h' m') (N : News h₀ L h' all) (hI : (I, it) ∈ all) (hc : it.cls = .type "tuple_iterator" ∨ it.cls = .type "range_iterator")
    (r : ∀ n2, But I all n2 → ButIt all n2 → rest m' n2) : UnrEnd h₀ L s₁ I it rest { s₁ with heap := h', toks := tk } := by
  refine UnrEnd.intro F N (all.filter (fun q => q.1 != I)) ?_ ?_ (r _ ?_ ?_)
  · intro p hp
    rcases List.mem_cons.mp hp with rfl | hp
    · exact hI
    · exact (List.mem_filter.mp hp).1
  · intro p hp
    simpa using (List.mem_filter.mp hp).2
  · exact fun q hq ne => List.mem_filter.mpr ⟨hq, by simpa using ne⟩
  · intro q hq n1 n2
    refine List.mem_filter.mpr ⟨hq, ?_⟩
    have : q.1 ≠ I := by
      rintro rfl
      have := News.same N hq hI
      rw [this] at n1 n2
      exact hc.elim n1 n2
    simpa using this
section
variable {prog : Program} {w : World} {A : Around} {E : Value → Shared → Prop} {s : Shared} {env : Env} {h₀ : Heap} {x : PySem.Str} {body : List Stmt} {Q : Flow → Shared → Prop}
def TupRest (prog : Program) (w : World) (A : Around) (E : Value → Shared → Prop) (h₀ : Heap) (env : Env) (x : PySem.Str) (body : List Stmt) (Q : Flow → Shared → Prop) (s : Shared) (I : Addr) (lp : Addr × Obj) : List Value → (PySem.Str → Option Value) → Led → Prop
  | [], m, news => ∀ h tk, Fr h₀ env.locals h m → News h₀ env.locals h news → Q .next { s with heap := h, toks := tk }
  | v :: r, m, news => ∀ (it : Obj) h tk, it.cls = .type "tuple_iterator" → isRd it = false → Fr h₀ env.locals h (fun y => if y = x then some v else m y) → News h₀ env.locals h ((I, it) :: news) →
      wpAny (model prog w) A (execs body env) (UnrPost h₀ env.locals { s with heap := h, toks := tk } I it (fun m' n' => lp ∈ n' ∧ TupRest prog w A E h₀ env x body Q s I lp r m' n') Q) E { s with heap := h, toks := tk }
theorem TupRest.zero {I : Addr} {lp : Addr × Obj} {m : PySem.Str → Option Value} {news : Led} (h : ∀ h tk, Fr h₀ env.locals h m → News h₀ env.locals h news → Q .next { s with heap := h, toks := tk }) :
    TupRest prog w A E h₀ env x body Q s I lp [] m news := h
theorem TupRest.succ {I : Addr} {lp : Addr × Obj} {v : Value} {r : List Value} {m : PySem.Str → Option Value} {news : Led}
    (h : ∀ (it : Obj) h tk, it.cls = .type "tuple_iterator" → isRd it = false → Fr h₀ env.locals h (fun y => if y = x then some v else m y) → News h₀ env.locals h ((I, it) :: news) →
      wpAny (model prog w) A (execs body env) (UnrPost h₀ env.locals { s with heap := h, toks := tk } I it (fun m' n' => lp ∈ n' ∧ TupRest prog w A E h₀ env x body Q s I lp r m' n') Q) E { s with heap := h, toks := tk }) :
    TupRest prog w A E h₀ env x body Q s I lp (v :: r) m news := h
theorem isRd_fields {o : Obj} {vs : Array Value} (h : o.data = .fields vs) : isRd o = false := by unfold isRd; rw [h]
theorem iter_tupUnr {ax : Addr} {lo : Obj} {vs : List Value} {n : Nat} {m₀ : PySem.Str → Option Value} {news : Led}
    (hh : A.handled = none) (F : Fr h₀ env.locals s.heap m₀) (N : News h₀ env.locals s.heap news) (hm : (ax, lo) ∈ news) (hc : lo.cls = .type "tuple") (hd : lo.data = .seq vs.toArray n)
    (rest₀ : ∀ I : Addr, (∀ p ∈ news, p.1 < I) → TupRest prog w A E h₀ env x body Q s I (ax, lo) vs m₀ news) :
    wpAny (model prog w) A (pyIter (.ref ax)) (fun it s₂ => LoopAtV prog w A h₀ env x body Q E it s₂) E s := by
  have hax := N _ hm
  have hl : s.heap.IsTuple ax vs.toArray := ⟨lo, hax.1, hc, n, hd⟩
  have hlt : ax < s.heap.objs.size := Heap.lt_size hax.1
  have hne : ax ≠ s.heap.objs.size := Nat.ne_of_lt hlt
  refine wpAny_pyIter_tuple hl ?_
  have rest := rest₀ s.heap.objs.size fun p hp => Heap.lt_size (N p hp).1
  have W := Walks.tuple (prog := prog) (w := w) hh s.heap.objs.size ax hne vs.toArray
  have hnew := next_is_new F
  have hlen : vs.toArray.size = vs.length := by simp
  rw [hlen] at W
  let J : Nat → (PySem.Str → Option Value) → Led → Prop := fun i m₁ news₁ => (ax, lo) ∈ news₁ ∧ TupRest prog w A E h₀ env x body Q s s.heap.objs.size (ax, lo) (vs.drop i) m₁ news₁
  refine ⟨_, _, _, vs.length, _, _, m₀, news, J, rfl, W, ?_, ?_, ?_, ⟨⟨_, Heap.get?_push_size _ rfl, rfl, rfl⟩, hl.at fun o e => Heap.get?_push_of_some _ e⟩, F.push _, (fun p hp => ⟨Heap.get?_push_of_some _ (N p hp).1, (N p hp).2⟩), ⟨hm, by rw [List.drop_zero]; exact rest⟩, ?_, ?_⟩
  · intro hmm
    rcases List.mem_cons.mp hmm with e | hmm
    · exact absurd F.ns.lt (e ▸ Nat.lt_irrefl _)
    · exact hax.2.1 (List.mem_singleton.mp hmm).symm
  · intro b hb
    rw [List.mem_singleton.mp hb]
    exact hnew
  · intro p hp hI
    exact absurd (Heap.lt_size (N p hp).1) ((List.mem_singleton.mp hI) ▸ Nat.lt_irrefl _)
  · rintro i v m₁ news₁ s₁ own ⟨hh', tk', rfl⟩ hin hP ⟨hmem₁, hJ⟩ hoff hown hget hall hst F₁ N₁
    obtain ⟨it, hit, hic, hid⟩ := hst.1
    have hmemI := hall s.heap.objs.size (List.mem_cons_self ..) hnew _ hit
    have hdrop : vs.drop i = v :: vs.drop (i + 1) := by
      have hlt' : i < vs.length := hin
      have hv : vs[i]? = some v := by simpa using hP
      rw [List.drop_eq_getElem_cons hlt']
      congr 1
      exact Option.some.inj ((List.getElem?_eq_getElem hlt').symm.trans hv)
    rw [hdrop] at hJ
    have N₂ : News h₀ env.locals hh' ((s.heap.objs.size, it) :: news₁) := fun p hp => by
      rcases List.mem_cons.mp hp with rfl | hp
      · exact N₁ _ (List.mem_append_left _ hmemI)
      · exact N₁ _ (List.mem_append_right _ hp)
    refine wpAny_mono (hJ it hh' tk' hic (isRd_fields hid) F₁ N₂) (fun f s₂ p => ?_) fun _ _ e => e
    have fin : UnrEnd h₀ env.locals { s with heap := hh', toks := tk' } s.heap.objs.size it (fun m' n' => (ax, lo) ∈ n' ∧ TupRest prog w A E h₀ env x body Q s s.heap.objs.size (ax, lo) (vs.drop (i + 1)) m' n') s₂ →
        LoopStepU h₀ env.locals [s.heap.objs.size] own (J (i + 1)) { s with heap := hh', toks := tk' } .next s₂ := by
      rintro ⟨h', tk, m', news', e, F', N', ho, hmm, r⟩
      refine ⟨rfl, h', tk, m', news', e, F', fun p hp => ?_, fun p hp hI => ho p hp (List.mem_singleton.mp hI), hmm, r⟩
      rcases List.mem_append.mp hp with hp | hp
      · have h2 : hh'.get? p.1 = some p.2 := hget p hp
        rcases List.mem_cons.mp (hown p hp) with h1 | h1
        · have h3 : p = (s.heap.objs.size, it) := by
            rw [h1, hit] at h2
            exact Prod.ext h1 (Option.some.inj h2).symm
          rw [h3]; exact N' _ (List.mem_cons_self ..)
        · have h1' : p.1 = ax := List.mem_singleton.mp h1
          have h3 : p = (ax, lo) := by
            rw [h1', (N₁ _ (List.mem_append_right _ hmem₁)).1] at h2
            exact Prod.ext h1' (Option.some.inj h2).symm
          rw [h3]; exact N' _ (List.mem_cons_of_mem _ hmm)
      · exact N' _ (List.mem_cons_of_mem _ hp)
    cases f with
    | ret v => exact .ret p
    | brk => exact .brk p
    | next => exact .next (fin p)
    | cont => exact .cont (fin p)
  · rintro h' tk m' news' F' N' _ ⟨_, hJ⟩
    have z : vs.drop vs.length = [] := List.drop_length
    rw [z] at hJ
    exact hJ h' tk F' N'
end
end Mine
end

section
open PySem PySem.W PyProof.Rows
set_option maxRecDepth 100000
namespace Mine
theorem reg_Ph_0 : True := by
  (k_with "k_mem" => first | ((show _ ∈ _); ktr_member) | exact List.Mem.head _ | (refine' List.mem_cons_of_mem _ ?_; k_mem))
  (k_with "k_mem" => first | ((show _ ∈ _); ktr_member) | exact List.Mem.head _ | (refine' List.mem_cons_of_mem _ ?_; k_mem) | (refine sub_at (by assumption) ?_; k_mem) | (refine keep_at (by assumption) (by first | rfl | decide +kernel) ?_; k_mem) | (refine butC_at (by assumption) tup_nl ?_; k_mem))
  (k_with "Sub" => (intro q9 hq9; repeat' (first | exact hq9 | refine sub_at (by assumption) ?_ | refine List.mem_cons_of_mem _ ?_)))
  (k_with "exec For Name Name cons nil" => (k_here; (rename Fr _ _ _ _ => lF'); (with_unfolding_all refine' For_invVF lF' ?k1 ?k2 ?_; (case k1 => exact rfl); (case k2 => exact rfl); k_whole)))
  (k_with "pyIter ref" => ((fail_if_success walk_at "off_Ph"); ((with_reducible show wpAny _ _ (pyIter (Value.ref _)) (fun it s₂ => LoopAtV _ _ _ _ _ _ _ _ _ it s₂) _ _); k_here; (rename Fr _ _ _ _ => lF'); (rename News _ _ _ _ => lN'); (with_unfolding_all refine iter_tupUnr (lo := _) (vs := _) (by rfl) lF' lN' (by k_mem) (by rfl) (by rfl) ?_); clear lF'; intro i' l1)))
  (k_with "TupRest" => ((fail_if_success walk_at "off_Ph"); (with_unfolding_all first | (refine TupRest.succ (fun it' h' tk' hit' hrd' F' N' => ?_)) | (refine TupRest.zero (fun h' tk' F' N' => ?_)))))
  (k_with "UnrEnd" => ((fail_if_success walk_at "off_Ph"); ((rename News _ _ _ _ => lN'); k_dflt (refine unrEnd_pure (by assumption) lN' (by assumption) ⟨by k_mem, ?_⟩))))
  trivial
def PhraseP (news : Led) (v : Value) (news' : Led) : Prop := (∃ a b1 b2 b3 t1 t2 n n1 n2 n3, v = .ref a ∧ (a, tupO [.ref b1, .ref b2, .ref b3] n) ∈ news' ∧ (b1, tupO [.str "ON" t1] n1) ∈ news' ∧ (b2, tupO [.str "EXCEPTION" t2] n2) ∈ news' ∧ (b3, tupO [] n3) ∈ news') ∧ (∀ q ∈ news, q ∈ news')
set_option maxHeartbeats 8000000 in
theorem phrase_does (w : World) (news : Led) (kt : Nat) :
    Does w 251 [.str "fault" kt] 20 300 news (PhraseP news) (fun _ _ => False) := by
  unfold Does
  k_fill
  intro _ dp un gd cn cs a ccd cl outer A₀ base h₀ L m mg mb mean s Q E B F X N T hk hd hu hret herr
  have hb : Binds w ob251 [.str "fault" kt] [("key", .str "fault" kt)] := .plain rfl
  refine wpAny_call ?_
  k_dflt ktr_enter
  k_steps
  exact hret _ _ _ _ (by k_asm) (by k_asm) ⟨⟨_, _, _, _, _, _, _, _, _, _, rfl, by k_mem, by k_mem, by k_mem, by k_mem⟩, by walk_at "Sub"⟩
theorem reg_Ph_1 : True := by
  (k_with "got more" => ((fail_if_success walk_at "off_Ph"); (intro hv'; obtain ⟨⟨a', b1', b2', b3', t1', t2', n0', n1', n2', n3', hv', hm0', hm1', hm2', hm3'⟩, hs'⟩ := hv'; subst hv'; (have hR' := RS.sub (by walk_at "RS") hs'))))
  (k_with "does" => ((fail_if_success walk_at "off_Ph"); first | with_reducible exact word_ahead_does _ _ _ _ _ _ _ _ _ (by walk_at "RS") (by first | with_reducible assumption | decide | omega)))
  (k_with "does" => ((fail_if_success walk_at "off_Ph"); first | with_reducible exact phrase_does _ _ _))
  trivial
set_option maxHeartbeats 8000000 in
theorem open_f0 (w : World) (r : Addr) (news : Led) (tds : Tds) (p : Nat) (hR : RS news r tds p) (kt : Nat) (f0ON : tokIs tds p "word" "ON" = false)(f0OV : tokIs tds p "word" "OVERFLOW" = false)(f0EX : tokIs tds p "word" "EXCEPTION" = false) :
    Does w 258 [.ref r, .str "fault" kt] 80 900 news (fun v news' => (∃ t, v = .int 0 t) ∧ (∀ q ∈ news, q ∈ news')) (fun _ _ => False) := by
  refine RS.elim hR fun rd tl e t nv n h1' h2' => ?_
  unfold Does
  k_fill
  intro _ dp un gd cn cs a ccd cl outer A₀ base h₀ L m mg mb mean s Q E B F X N T hk hd hu hret herr
  have hb : Binds w ob258 [.ref r, .str "fault" kt] [("reader", .ref r), ("key", .str "fault" kt)] := .plain rfl
  refine wpAny_call ?_
  k_dflt ktr_enter
  k_steps
  exact hret _ _ _ _ (by k_asm) (by k_asm) ⟨⟨_, rfl⟩, by walk_at "Sub"⟩
set_option maxHeartbeats 8000000 in
theorem open_fo (w : World) (r : Addr) (news : Led) (tds : Tds) (p : Nat) (hR : RS news r tds p) (kt : Nat) (f0ON : tokIs tds p "word" "ON" = false)(f0OV : tokIs tds p "word" "OVERFLOW" = true) :
    Does w 258 [.ref r, .str "fault" kt] 80 900 news (fun v news' => (∃ t, v = .int 1 t) ∧ (∀ q ∈ news, q ∈ news')) (fun _ _ => False) := by
  refine RS.elim hR fun rd tl e t nv n h1' h2' => ?_
  unfold Does
  k_fill
  intro _ dp un gd cn cs a ccd cl outer A₀ base h₀ L m mg mb mean s Q E B F X N T hk hd hu hret herr
  have hb : Binds w ob258 [.ref r, .str "fault" kt] [("reader", .ref r), ("key", .str "fault" kt)] := .plain rfl
  refine wpAny_call ?_
  k_dflt ktr_enter
  k_steps
  exact hret _ _ _ _ (by k_asm) (by k_asm) ⟨⟨_, rfl⟩, by walk_at "Sub"⟩
set_option maxHeartbeats 8000000 in
theorem open_fe (w : World) (r : Addr) (news : Led) (tds : Tds) (p : Nat) (hR : RS news r tds p) (kt : Nat) (f0ON : tokIs tds p "word" "ON" = false)(f0OV : tokIs tds p "word" "OVERFLOW" = false)(f0EX : tokIs tds p "word" "EXCEPTION" = true) :
    Does w 258 [.ref r, .str "fault" kt] 80 900 news (fun v news' => (∃ t, v = .int 1 t) ∧ (∀ q ∈ news, q ∈ news')) (fun _ _ => False) := by
  refine RS.elim hR fun rd tl e t nv n h1' h2' => ?_
  unfold Does
  k_fill
  intro _ dp un gd cn cs a ccd cl outer A₀ base h₀ L m mg mb mean s Q E B F X N T hk hd hu hret herr
  have hb : Binds w ob258 [.ref r, .str "fault" kt] [("reader", .ref r), ("key", .str "fault" kt)] := .plain rfl
  refine wpAny_call ?_
  k_dflt ktr_enter
  k_steps
  exact hret _ _ _ _ (by k_asm) (by k_asm) ⟨⟨_, rfl⟩, by walk_at "Sub"⟩
set_option maxHeartbeats 8000000 in
theorem open_foo (w : World) (r : Addr) (news : Led) (tds : Tds) (p : Nat) (hR : RS news r tds p) (kt : Nat) (f0ON : tokIs tds p "word" "ON" = true)(f1OV : tokIs tds (p + 1) "word" "OVERFLOW" = true) :
    Does w 258 [.ref r, .str "fault" kt] 80 900 news (fun v news' => (∃ t, v = .int 2 t) ∧ (∀ q ∈ news, q ∈ news')) (fun _ _ => False) := by
  refine RS.elim hR fun rd tl e t nv n h1' h2' => ?_
  unfold Does
  k_fill
  intro _ dp un gd cn cs a ccd cl outer A₀ base h₀ L m mg mb mean s Q E B F X N T hk hd hu hret herr
  have hb : Binds w ob258 [.ref r, .str "fault" kt] [("reader", .ref r), ("key", .str "fault" kt)] := .plain rfl
  refine wpAny_call ?_
  k_dflt ktr_enter
  k_steps
  exact hret _ _ _ _ (by k_asm) (by k_asm) ⟨⟨_, rfl⟩, by walk_at "Sub"⟩
set_option maxHeartbeats 8000000 in
theorem open_foe (w : World) (r : Addr) (news : Led) (tds : Tds) (p : Nat) (hR : RS news r tds p) (kt : Nat) (f0ON : tokIs tds p "word" "ON" = true)(f1OV : tokIs tds (p + 1) "word" "OVERFLOW" = false)(f1EX : tokIs tds (p + 1) "word" "EXCEPTION" = true) :
    Does w 258 [.ref r, .str "fault" kt] 80 900 news (fun v news' => (∃ t, v = .int 2 t) ∧ (∀ q ∈ news, q ∈ news')) (fun _ _ => False) := by
  refine RS.elim hR fun rd tl e t nv n h1' h2' => ?_
  unfold Does
  k_fill
  intro _ dp un gd cn cs a ccd cl outer A₀ base h₀ L m mg mb mean s Q E B F X N T hk hd hu hret herr
  have hb : Binds w ob258 [.ref r, .str "fault" kt] [("reader", .ref r), ("key", .str "fault" kt)] := .plain rfl
  refine wpAny_call ?_
  k_dflt ktr_enter
  k_steps
  exact hret _ _ _ _ (by k_asm) (by k_asm) ⟨⟨_, rfl⟩, by walk_at "Sub"⟩
set_option maxHeartbeats 8000000 in
theorem open_n0 (w : World) (r : Addr) (news : Led) (tds : Tds) (p : Nat) (hR : RS news r tds p) (kt : Nat) (f0NO : tokIs tds p "word" "NOT" = false) :
    Does w 258 [.ref r, .str "not fault" kt] 80 900 news (fun v news' => (∃ t, v = .int 0 t) ∧ (∀ q ∈ news, q ∈ news')) (fun _ _ => False) := by
  refine RS.elim hR fun rd tl e t nv n h1' h2' => ?_
  unfold Does
  k_fill
  intro _ dp un gd cn cs a ccd cl outer A₀ base h₀ L m mg mb mean s Q E B F X N T hk hd hu hret herr
  have hb : Binds w ob258 [.ref r, .str "not fault" kt] [("reader", .ref r), ("key", .str "not fault" kt)] := .plain rfl
  refine wpAny_call ?_
  k_dflt ktr_enter
  k_steps
  exact hret _ _ _ _ (by k_asm) (by k_asm) ⟨⟨_, rfl⟩, by walk_at "Sub"⟩
set_option maxHeartbeats 8000000 in
theorem open_ne (w : World) (r : Addr) (news : Led) (tds : Tds) (p : Nat) (hR : RS news r tds p) (kt : Nat) (f0NO : tokIs tds p "word" "NOT" = true)(f1ON : tokIs tds (p + 1) "word" "ON" = false)(f1EX : tokIs tds (p + 1) "word" "EXCEPTION" = true) :
    Does w 258 [.ref r, .str "not fault" kt] 80 900 news (fun v news' => (∃ t, v = .int 2 t) ∧ (∀ q ∈ news, q ∈ news')) (fun _ _ => False) := by
  refine RS.elim hR fun rd tl e t nv n h1' h2' => ?_
  unfold Does
  k_fill
  intro _ dp un gd cn cs a ccd cl outer A₀ base h₀ L m mg mb mean s Q E B F X N T hk hd hu hret herr
  have hb : Binds w ob258 [.ref r, .str "not fault" kt] [("reader", .ref r), ("key", .str "not fault" kt)] := .plain rfl
  refine wpAny_call ?_
  k_dflt ktr_enter
  k_steps
  exact hret _ _ _ _ (by k_asm) (by k_asm) ⟨⟨_, rfl⟩, by walk_at "Sub"⟩
set_option maxHeartbeats 8000000 in
theorem open_noe (w : World) (r : Addr) (news : Led) (tds : Tds) (p : Nat) (hR : RS news r tds p) (kt : Nat) (f0NO : tokIs tds p "word" "NOT" = true)(f1ON : tokIs tds (p + 1) "word" "ON" = true)(f2EX : tokIs tds (p + 2) "word" "EXCEPTION" = true) :
    Does w 258 [.ref r, .str "not fault" kt] 80 900 news (fun v news' => (∃ t, v = .int 3 t) ∧ (∀ q ∈ news, q ∈ news')) (fun _ _ => False) := by
  refine RS.elim hR fun rd tl e t nv n h1' h2' => ?_
  unfold Does
  k_fill
  intro _ dp un gd cn cs a ccd cl outer A₀ base h₀ L m mg mb mean s Q E B F X N T hk hd hu hret herr
  have hb : Binds w ob258 [.ref r, .str "not fault" kt] [("reader", .ref r), ("key", .str "not fault" kt)] := .plain rfl
  refine wpAny_call ?_
  k_dflt ktr_enter
  k_steps
  exact hret _ _ _ _ (by k_asm) (by k_asm) ⟨⟨_, rfl⟩, by walk_at "Sub"⟩
end Mine
theorem off_Ph : True := by
  (k_with "off_Ph" => skip)
  trivial
end

section
open PySem PySem.W PyProof.Rows
set_option maxRecDepth 100000
namespace Mine
theorem reg_Bd_0 : True := by
  (k_with "nt on" => ((fail_if_success walk_at "off_Bd"); (skip)))
  trivial
def bodyD : Dat := .tuple [.tuple [.str "continue"]]
theorem body1_dat {n : Led} {a b : Addr} {t k k' : Nat} (h1 : (a, tupO [.ref b] k) ∈ n) (h2 : (b, tupO [.str "continue" t] k') ∈ n) : DatIn n (.ref a) bodyD := .tuple h1 (.cons (.tuple h2 (.cons (.str _ _) .nil)) .nil)
def Body0 (v : Value) (news' : Led) : Prop := ∃ a k, v = .ref a ∧ (a, tupO [] k) ∈ news'
def Body1 (v : Value) (news' : Led) : Prop := ∃ a b t k k', v = .ref a ∧ (a, tupO [.ref b] k) ∈ news' ∧ (b, tupO [.str "continue" t] k') ∈ news'
theorem reg_Bd_1 : True := by
  (k_with "does" => first | with_reducible exact skip_does _ _ _ _ _ _ _ (by walk_at "RS") (by first | assumption | exact ⟨by decide +kernel, by decide⟩))
  trivial
set_option maxHeartbeats 8000000 in
theorem law_body_0 (w : World) (r : Addr) (news : Led) (tds : Tds) (p : Nat) (hR : RS news r tds p) (hc : tokIs tds p "word" "CONTINUE" = false) (hpos : 0 < tds.length) :
    Does w 575 [.ref r] 80 900 news (fun v news' => Body0 v news' ∧ RS news' r tds p ∧ Keep news news') (fun _ _ => False) := by
  refine RS.elim hR fun rd tl e t nv n h1' h2' => ?_
  unfold Does
  k_fill
  intro _ dp un gd cn cs a ccd cl outer A₀ base h₀ L m mg mb mean s Q E B F X N T hk hd hu hret herr
  have hb : Binds w ob575 [.ref r] [("reader", .ref r)] := .plain rfl
  refine wpAny_call ?_
  k_dflt ktr_enter
  k_steps
  exact hret _ _ _ _ (by k_asm) (by k_asm) ⟨⟨_, _, rfl, by k_mem⟩, by walk_at "RS", by walk_at "Keep"⟩
set_option maxHeartbeats 8000000 in
theorem law_body_1 (w : World) (r : Addr) (news : Led) (tds : Tds) (p : Nat) (hR : RS news r tds p) (hc : tokIs tds p "word" "CONTINUE" = true) (hc2 : tokIs tds (p + 1) "word" "CONTINUE" = false) (hpos : 0 < tds.length) :
    Does w 575 [.ref r] 80 900 news (fun v news' => Body1 v news' ∧ RS news' r tds (p + 1) ∧ Keep news news') (fun _ _ => False) := by
  refine RS.elim hR fun rd tl e t nv n h1' h2' => ?_
  unfold Does
  k_fill
  intro _ dp un gd cn cs a ccd cl outer A₀ base h₀ L m mg mb mean s Q E B F X N T hk hd hu hret herr
  have hb : Binds w ob575 [.ref r] [("reader", .ref r)] := .plain rfl
  refine wpAny_call ?_
  k_dflt ktr_enter
  k_steps
  exact hret _ _ _ _ (by k_asm) (by k_asm) ⟨⟨_, _, _, _, _, rfl, by k_mem, .tail _ (butC_at (by assumption) tup_nl (.head _))⟩, by walk_at "RS", by walk_at "Keep"⟩
end Mine
theorem off_Bd : True := by
  (k_with "off_Bd" => skip)
  trivial
end

section
open PySem PySem.W PyProof.Rows
set_option maxRecDepth 100000
namespace Mine
theorem reg_Bh_0 : True := by
  k_with_none
  (k_with "room" => (first | exact room_le (by assumption) rfl rfl | ktr_room | ktr_units))
  (k_with "room0" => (first | exact room_lt (by assumption) rfl | ktr_room | (simp only [A9, depth_under_make, depth_deeper]; omega)))
  (k_with "sR" => (simp only [Int.reduceAdd, Int.reduceToNat, Nat.add_zero, Nat.zero_add, Nat.add_assoc, Nat.reduceAdd] at hR'))
  (k_with "sB" => (simp only [Int.reduceAdd, Int.reduceToNat, Nat.add_zero, Nat.zero_add, Nat.add_assoc, Nat.reduceAdd] at hb'))
  (k_with "fold" => ((fail_if_success (fail_if_success k_fold)); refine' (let qk := _; (?_ : wpAny _ _ _ qk _ _))))
  (k_with "nextQ" => (first | with_reducible refine nextQ_next ?_ | with_reducible refine nextQ_ret ?_ | with_reducible refine nextQ_brk ?_ | with_reducible refine nextQ_cont ?_))
  (k_with "outQ" => (first | with_reducible refine outQ_ret ?_ | with_reducible refine outQ_next ?_))
  (k_with "outE" => (with_reducible refine outE_go ?_))
  (k_with "resR" => (first | with_reducible refine resR_ret ?_ | with_reducible refine resR_err ?_))
  (k_with "rdM" => (first | exact rdM_365 rfl X | exact rdM_379 rfl X | exact rdM_386 rfl X | exact rdM_394 rfl X | exact rdM_401 rfl X | exact rdM_408 rfl X | exact rdM_415 rfl X | exact rdM_422 rfl X | exact rdM_437 rfl X | exact rdM_444 rfl X | exact rdM_459 rfl X | exact rdM_466 rfl X | exact rdM_473 rfl X | exact rdM_480 rfl X | exact rdM_487 rfl X | exact rdM_508 rfl X))
  (k_with "fnM" => (first | exact fnM_29 rfl X | exact fnM_36 rfl X | exact fnM_50 rfl X | exact fnM_57 rfl X | exact fnM_64 rfl X | exact fnM_71 rfl X | exact fnM_139 rfl X | exact fnM_181 rfl X | exact fnM_174 rfl X | exact fnM_188 rfl X | exact fnM_195 rfl X | exact fnM_202 rfl X | exact fnM_209 rfl X | exact fnM_216 rfl X | exact fnM_230 rfl X | exact fnM_237 rfl X | exact fnM_244 rfl X | exact fnM_251 rfl X | exact fnM_258 rfl X | exact fnM_265 rfl X | exact fnM_272 rfl X | exact fnM_279 rfl X | exact fnM_286 rfl X | exact fnM_293 rfl X | exact fnM_300 rfl X | exact fnM_337 rfl X | exact fnM_342 rfl X | exact fnM_522 rfl X | exact fnM_527 rfl X | exact fnM_547 rfl X | exact fnM_561 rfl X | exact fnM_568 rfl X | exact fnM_582 rfl X | exact fnM_610 rfl X))
  (k_with "ktr_enter" => (refine' code_def ?k1 ?k2 ?k3 ?k4 ?k5 ?kA ?kF ?kK ?k6 ?k7 ?k8 ?k9 ?kB ?_ ?c2 ?c3 ?c4 ?c5; (case kA => exact rfl); (case kF => exact rfl); (case kK => assumption); (case k1 => k_asm); (case k2 => k_asm); (case k3 => k_asm); (case k4 => k_asm); (case k5 => k_asm); (case k6 => k_is); (case k7 => k_is); (case k8 => walk_at "room0"); (case k9 => (rename Binds _ _ _ _ => hbX; exact hbX _ (by k_in))); (case c5 => decide); (case kB => exact locs rfl); (case c2 => exact rfl); (case c3 => exact rfl); (case c4 => exact rfl); k_whole; intro g' L' h' FG' F' N' B' X' T'; (try dsimp only); (try k_fold)))
  (k_with "k_mem" => first | ((show _ ∈ _); ktr_member) | exact List.Mem.head _ | (refine' List.mem_cons_of_mem _ ?_; k_mem))
  (k_with "RS" => first | assumption | exact RS.sub1 (by assumption) | exact RS.sub1 (RS.sub1 (by assumption)) | exact RS.sub1 (RS.sub1 (RS.sub1 (by assumption))) | exact RS.sub1 (RS.sub1 (RS.sub1 (RS.sub1 (by assumption)))) | exact RS.sub1 (RS.sub1 (RS.sub1 (RS.sub1 (RS.sub1 (by assumption))))) | exact RS.sub1 (RS.sub1 (RS.sub1 (RS.sub1 (RS.sub1 (RS.sub1 (by assumption)))))))
  (k_with "gotn" => (first | ((fail_if_success (intro v' n' h' tk' F' N' hv'; simp only [Int.reduceAdd, Int.reduceToNat, Nat.add_zero, Nat.zero_add, Nat.add_assoc, Nat.reduceAdd] at hv')); first | (with_reducible refine got_v ?_; intro h' tk' F' N') | (with_reducible refine' got_pk ?ho ?_; (case ho => with_reducible assumption); intro x' dx' ta' t1' t2' tn' e' tt' nn' h' tk' F' N' hx' hdx' hta') | (with_reducible refine got_pn ?ho ?_; (case ho => with_reducible assumption); intro h' tk' F' N') | (with_reducible refine got_ps ?hn ?_; (case hn => exact (fun h9 => no_kind h9 (by with_reducible assumption))); intro td' x' dx' ta' t1' t2' tn' e' tt' nn' h' tk' F' N' ht' hx' hdx' hta') | (with_reducible refine got_p2 (fun ht' h' tk' F' N' => ?_) (fun td' x' dx' ta' t1' t2' tn' e' tt' nn' h' tk' F' N' ht' hx' hdx' hta' => ?_)) | (with_reducible refine got_x ?_; intro t' h' tk' F' N')) | (with_reducible refine got_tk ?_; intro x' dx' ta' t1' t2' tn' e' tt' nn' n' h' tk' F' N' hR' hK' hx' hdx' hta'; (try walk_at "sR")) | (with_reducible refine got_xm ?_; intro t' n' h' tk' F' N' hR' hK'; (try walk_at "sR")) | (with_reducible refine got_vm ?_; intro n' h' tk' F' N' hR' hK'; (try walk_at "sR")) | (with_reducible refine got_skF ?hn ?_; (case hn => first | exact (fun h9 => no_bool h9 (by assumption)) | exact (fun h9 => no_tokIs (by assumption) h9 (by first | rfl | decide))); intro hb' h' tk' F' N'; (try walk_at "sB")) | (with_reducible refine got_skT ?hn ?_; (case hn => first | exact (fun h9 => no_bool (by assumption) h9) | exact (fun h9 => no_tokIs' (by assumption) h9 (by first | rfl | decide))); intro hb' n' h' tk' F' N' hR' hK'; (try walk_at "sR"); (try walk_at "sB")) | ((with_reducible refine got_sk (fun hb' n' h' tk' F' N' hR' hK' => ?_) (fun hb' h' tk' F' N' => ?_)) <;> ((try walk_at "sR"); (try walk_at "sB"))) | (refine got_xs ?_; intro t' n' h' tk' F' N' hs'; (fail_if_success (have h9 := And.left hs')); (try (have hR' := RS.sub (by walk_at "RS") hs'))) | (refine got_tp ?_; intro a' t1' t2' n' h' tk' F' N' hm' hs'; (fail_if_success (have h9 := And.left hs')); (try (have hR' := RS.sub (by walk_at "RS") hs')))))
  (k_with "got" => (first | walk_at "gotn" | (intro v' n' h' tk' F' N' hv'; simp only [Int.reduceAdd, Int.reduceToNat, Nat.add_zero, Nat.zero_add, Nat.add_assoc, Nat.reduceAdd] at hv'; revert v' n' h' tk' F' N' hv'; walk_at "gotn") | (intro v' n' h' tk' F' N' hv'; (try simp only [Int.reduceAdd, Int.reduceToNat, Nat.add_zero, Nat.zero_add, Nat.add_assoc, Nat.reduceAdd] at hv'); revert hv'; walk_at "got more")))
  (k_with "call ref" => (k_here; (with_reducible show wpAny _ _ (call (Value.ref _) _) _ _ _); k_dflt (refine' Does.use ?H ?k1 ?k2 ?k3 ?k4 ?k5 ?k6 ?kd ?ku ?_ ?kE; (case k1 => k_asm); (case k2 => k_asm); (case k3 => k_asm); (case k4 => k_asm); (case k5 => k_asm); (case H => ((try dsimp only [List.cons_append, List.nil_append]); walk_at "does")); (case k6 => first | rfl | assumption); (case kd => walk_at "room"); (case ku => walk_at "room"); (case kE => (intro _ _ _ _ _ _ hF9; exact hF9.elim)); k_whole); walk_at "got"))
  (k_with "k_mem" => first | ((show _ ∈ _); ktr_member) | exact List.Mem.head _ | (refine' List.mem_cons_of_mem _ ?_; k_mem) | (refine sub_at (by assumption) ?_; k_mem) | (refine keep_at (by assumption) (by first | rfl | decide +kernel) ?_; k_mem) | (refine butC_at (by assumption) tup_nl ?_; k_mem))
  (k_with "Keep" => (intro q9 hq9 hi9; repeat' (first | exact hq9 | refine sub_at (by assumption) ?_ | refine keep_at (by assumption) hi9 ?_ | refine List.mem_cons_of_mem _ ?_ | refine but_at (by assumption) ?_ ?_ | refine ne_lt (by assumption) ?_ | refine ne_all (by first | assumption | exact And.right (by assumption)) ?_)))
  (k_with "Tb" => first | assumption | (refine Tb.keep ?_ (by assumption); walk_at "Tb") | (refine Tb.cons ?_; walk_at "Tb") | (refine Tb.sub ?_ (by assumption); walk_at "Tb") | (refine Tb.butC ?_ (by assumption); walk_at "Tb"))
  (k_with "KeepT" => (intro q9 hq9 hi9 hn9; repeat' (first | exact hq9 | refine sub_at (by assumption) ?_ | refine keep_at (by assumption) hi9 ?_ | refine keepT_at (by assumption) hi9 hn9 ?_ | refine tab_at (by assumption) hn9 ?_ | refine List.mem_cons_of_mem _ ?_ | refine but_at (by assumption) ?_ ?_ | refine ne_lt (by assumption) ?_ | refine ne_all (by first | assumption | exact And.right (by assumption)) ?_)))
  (k_with "k_mem" => first | ((show _ ∈ _); ktr_member) | exact List.Mem.head _ | (refine' List.mem_cons_of_mem _ ?_; k_mem) | (refine sub_at (by assumption) ?_; k_mem) | (refine keep_at (by assumption) (by first | rfl | decide +kernel) ?_; k_mem) | (refine keepT_at (by assumption) rfl (fun z => nomatch z) ?_; k_mem) | (refine tab_at (by assumption) (fun z => nomatch z) ?_; k_mem) | (refine butC_at (by assumption) tup_nl ?_; k_mem))
  (k_with "got more" => (intro hv'; obtain ⟨hp', hs'⟩ := hv'; (first | (obtain ⟨t', hv'⟩ := hp'; subst hv') | (obtain ⟨a', t1', t2', hv', hm'⟩ := hp'; subst hv')); (try (have hR' := RS.sub (by walk_at "RS") hs')); (try dsimp only)))
  (k_with "got more" => (intro hv'; obtain ⟨⟨a', b1', t1', k1', k2', hv', hm1', hm2'⟩, hR', hK'⟩ := hv'; subst hv'; refine RS.elim hR' fun rd' tl' e'' t'' nv' nn'' h1' h2' => ?_; (try dsimp only)))
  (k_with "got more" => (intro hv'; obtain ⟨⟨a', k1', hv', hm1'⟩, hR', hK'⟩ := hv'; subst hv'; refine RS.elim hR' fun rd' tl' e'' t'' nv' nn'' h1' h2' => ?_; (try dsimp only)))
  (k_with "exec Raise" => (k_here; k_dflt (refine raise_valV (by first | rfl | assumption) ?_)))
  (k_with "exec Raise some none" => (k_here; k_dflt (refine raise_valV (by first | rfl | assumption) ?_)))
  (k_with "does" => first | with_reducible exact law_body_1 _ _ _ _ _ (by walk_at "RS") (by assumption) (by assumption) (by assumption))
  trivial
set_option maxHeartbeats 8000000 in
theorem body_1 (w : World) (r : Addr) (news : Led) (tds : Tds) (p : Nat) (hR : RS news r tds p) (hc : tokIs tds p "word" "CONTINUE" = true) (hc2 : tokIs tds (p + 1) "word" "CONTINUE" = false) (hpos : 0 < tds.length) :
    Does w 265 [.ref r, .ref 575] 100 1200 news (fun v news' => Body1 v news' ∧ RS news' r tds (p + 1) ∧ Keep news news') (fun _ _ => False) := by
  refine RS.elim hR fun rd tl e t nv n h1' h2' => ?_
  unfold Does
  k_fill
  intro _ dp un gd cn cs a ccd cl outer A₀ base h₀ L m mg mb mean s Q E B F X N T hk hd hu hret herr
  have hb : Binds w ob265 [.ref r, .ref 575] [("reader", .ref r), ("read_body", .ref 575)] := .plain rfl
  refine wpAny_call ?_
  k_dflt ktr_enter
  k_steps
  exact hret _ _ _ _ (by k_asm) (by k_asm) ⟨⟨_, _, _, _, _, rfl, by k_mem, by k_mem⟩, by walk_at "RS", by walk_at "Keep"⟩
theorem reg_Bh_1 : True := by
  (k_with "does" => first | with_reducible exact law_body_0 _ _ _ _ _ (by walk_at "RS") (by assumption) (by assumption))
  (k_with "does" => first | with_reducible exact fault_does _ _ _ _ _ _ _ (by walk_at "RS") (by assumption))
  (k_with "got more" => (intro hv'; obtain ⟨⟨e', hv', hne', hF'⟩, hR', hK'⟩ := hv'; subst hv'; (have hne9 : NotHere _ _ := hne'); refine RS.elim hR' fun rd' tl' e'' t'' nv' nn'' h1' h2' => ?_; (try dsimp only)))
  trivial
set_option maxHeartbeats 8000000 in
theorem body_raises (w : World) (r : Addr) (news : Led) (tds : Tds) (p : Nat) (hR : RS news r tds p) (hc : tokIs tds p "word" "CONTINUE" = false) (hpos : 0 < tds.length) (hp : p < tds.length) (hTb : Tb news) :
    RaisesT w 265 [.ref r, .ref 575] 200 2000 news p := by
  refine RS.elim hR fun rd tl e t nv n h1' h2' => ?_
  unfold RaisesT
  k_fill
  intro _ dp un gd cn cs a ccd cl outer A₀ base h₀ L m mg mb mean s Q E B F X N T hk hd hu herr
  have hb : Binds w ob265 [.ref r, .ref 575] [("reader", .ref r), ("read_body", .ref 575)] := .plain rfl
  refine wpAny_call ?_
  k_dflt ktr_enter
  k_steps
  rename FaultAt _ _ _ => hF9
  rename Fr _ _ _ _ => F9
  rename News _ _ _ _ => N9
  rename Below _ _ _ _ => B9
  rename NotHere _ _ => ne9
  rename Keep _ _ => K9
  refine raise_out B9 F9 N9 (by assumption) hF9 (fun h9 n9 m9 R9 => ?_) ?_ ?_ ?_
  rotate_left
  · exact Around.frames_deeper B9.stack
  · rfl
  · exact fun z => nomatch z
  exact herr _ _ _ _ _ (by assumption) (KeepT.out (by walk_at "KeepT") K9 ne9 m9) (Tb.out (by walk_at "Tb") K9 ne9 m9) R9
end Mine
end

section
open PySem PySem.W PyProof.Rows PySem.Calls PySem.Spec
set_option maxRecDepth 100000
namespace Mine
def DoesR (w : World) (f : Addr) (vs : List Value) (d u : Nat) (news : Led) (Post : Value → Led → Prop) (Rz : Nat → Prop) : Prop :=
  ∀ (_ : rw1 = rw1) (dp un : Nat) (gd : Option (List Code)) (cn : PySem.Str) (cs : Scope) (a : Addr) (ccd : Value) (cl : List (PySem.Str × Addr)) (outer : List Env) (A₀ : Around) (base h₀ : Heap) (L : Addr) (m mg mb : PySem.Str → Option Value) (mean : ExcName → Option Value) (s : Shared) (Q E : Value → Shared → Prop),
    Below A₀ base outer h₀ → Fr h₀ L s.heap m → (KK w.params).In h₀ → News h₀ L s.heap news → Top qv (looseW qv looseV) mean mg mb h₀ → cs.kind = .function → dp + d < recursionLimit → un + u < cLine →
    (∀ v news' h' tk', Fr h₀ L h' m → News h₀ L h' news' → Post v news' → Q v { s with heap := h', toks := tk' }) →
    (∀ i e G news' h' tk', Rz i → Fr h₀ L G m → KeepT news news' → Tb news' → RaisedD base G (envX cn cs L a ccd cl :: outer) e i news' h' → E (.ref e) { s with heap := h', toks := tk' }) →
    wpAny (model pw w) (ktrTop dp un gd cn cs L a ccd cl outer) (call (.ref f) vs) Q E s
theorem DoesR.use {w : World} {f : Addr} {vs : List Value} {d u : Nat} {news : Led} {Post : Value → Led → Prop} {Rz : Nat → Prop} (H : DoesR w f vs d u news Post Rz)
    {dp un : Nat} {gd : Option (List Code)} {cn : PySem.Str} {cs : Scope} {a : Addr} {ccd : Value} {cl : List (PySem.Str × Addr)} {outer : List Env} {A₀ : Around} {base h₀ : Heap} {L : Addr} {m mg mb : PySem.Str → Option Value} {mean : ExcName → Option Value} {s : Shared} {Q E : Value → Shared → Prop}
    (B : Below A₀ base outer h₀) (F : Fr h₀ L s.heap m) (X : (KK w.params).In h₀) (N : News h₀ L s.heap news) (T : Top qv (looseW qv looseV) mean mg mb h₀) (hk : cs.kind = .function) (hd : dp + d < recursionLimit) (hu : un + u < cLine)
    (hret : ∀ v news' h' tk', Fr h₀ L h' m → News h₀ L h' news' → Post v news' → Q v { s with heap := h', toks := tk' })
    (herr : Hold (∀ i e G news' h' tk', Rz i → Fr h₀ L G m → KeepT news news' → Tb news' → RaisedD base G (envX cn cs L a ccd cl :: outer) e i news' h' → E (.ref e) { s with heap := h', toks := tk' })) :
    wpAny (model pw w) (ktrTop dp un gd cn cs L a ccd cl outer) (call (.ref f) vs) Q E s := H rfl dp un gd cn cs a ccd cl outer A₀ base h₀ L m mg mb mean s Q E B F X N T hk hd hu hret herr.out
theorem DoesR.mono {w : World} {f : Addr} {vs : List Value} {d u d' u' : Nat} {news : Led} {P P' : Value → Led → Prop} {Rz Rz' : Nat → Prop} (H : DoesR w f vs d u news P Rz) (hd : d ≤ d') (hu : u ≤ u') (hP : ∀ v n, P v n → P' v n) (hR : ∀ i, Rz i → Rz' i) : DoesR w f vs d' u' news P' Rz' :=
  fun x dp un gd cn cs a ccd cl outer A₀ base h₀ L m mg mb mean s Q E B F X N T hk kd ku hret herr =>
    H x dp un gd cn cs a ccd cl outer A₀ base h₀ L m mg mb mean s Q E B F X N T hk (by omega) (by omega) (fun v n h t f n' p => hret v n h t f n' (hP _ _ p)) (fun i e G n h t r => herr i e G n h t (hR _ r))
theorem Does.R {w : World} {f : Addr} {vs : List Value} {d u : Nat} {news : Led} {P : Value → Led → Prop} {Rz : Nat → Prop} (H : Does w f vs d u news P (fun _ _ => False)) : DoesR w f vs d u news P Rz :=
  fun x dp un gd cn cs a ccd cl outer A₀ base h₀ L m mg mb mean s Q E B F X N T hk hd hu hret _ => H x dp un gd cn cs a ccd cl outer A₀ base h₀ L m mg mb mean s Q E B F X N T hk hd hu hret (fun _ _ _ _ _ _ z => z.elim)
theorem RaisesT.R {w : World} {f : Addr} {vs : List Value} {d u : Nat} {news : Led} {P : Value → Led → Prop} {i : Nat} (H : RaisesT w f vs d u news i) : DoesR w f vs d u news P (fun j => j = i) :=
  fun x dp un gd cn cs a ccd cl outer A₀ base h₀ L m mg mb mean s Q E B F X N T hk hd hu _ herr => H x dp un gd cn cs a ccd cl outer A₀ base h₀ L m mg mb mean s Q E B F X N T hk hd hu (fun e G n h t => herr i e G n h t rfl)
theorem DoesR.does {w : World} {f : Addr} {vs : List Value} {d u : Nat} {news : Led} {P : Value → Led → Prop} (H : DoesR w f vs d u news P (fun _ => False)) : Does w f vs d u news P (fun _ _ => False) :=
  fun x dp un gd cn cs a ccd cl outer A₀ base h₀ L m mg mb mean s Q E B F X N T hk hd hu hret _ => H x dp un gd cn cs a ccd cl outer A₀ base h₀ L m mg mb mean s Q E B F X N T hk hd hu hret (fun _ _ _ _ _ _ z => z.elim)
section
variable {prog : Program} {w : World} {A : Around} {E : Value → Shared → Prop} {s : Shared} {env : Env} {h₀ : Heap} {x : PySem.Str} {body : List Stmt} {Q : Flow → Shared → Prop}
theorem UnrPost.mono {L : Addr} {s₁ : Shared} {I : Addr} {it : Obj} {P P' : (PySem.Str → Option Value) → Led → Prop} (h : ∀ m n, P m n → P' m n) {f : Flow} {s₂ : Shared} (x : UnrPost h₀ L s₁ I it P Q f s₂) : UnrPost h₀ L s₁ I it P' Q f s₂ := by
  cases f with
  | ret v => exact x
  | brk => exact x
  | next =>
    obtain ⟨h', tk, m', n', e, F, N, o, r⟩ := x
    exact ⟨h', tk, m', n', e, F, N, o, h _ _ r⟩
  | cont =>
    obtain ⟨h', tk, m', n', e, F, N, o, r⟩ := x
    exact ⟨h', tk, m', n', e, F, N, o, h _ _ r⟩
theorem rangeRest_ind {I : Addr} {a : Int} {n : Nat} (Inv : Nat → (PySem.Str → Option Value) → Led → Prop)
    (step : ∀ i m news, i < n → Inv i m news → ∀ t h tk, Fr h₀ env.locals h (fun y => if y = x then some (.int (a + (i : Int)) t) else m y) → News h₀ env.locals h ((I, itR (a + ((i + 1 : Nat) : Int)) ((n : Int) - ((i + 1 : Nat) : Int))) :: news) →
      wpAny (model prog w) A (execs body env) (UnrPost h₀ env.locals { s with heap := h, toks := tk } I (itR (a + ((i + 1 : Nat) : Int)) ((n : Int) - ((i + 1 : Nat) : Int))) (Inv (i + 1)) Q) E { s with heap := h, toks := tk })
    (fin : ∀ m news, Inv n m news → ∀ h tk, Fr h₀ env.locals h m → News h₀ env.locals h news → Q .next { s with heap := h, toks := tk }) :
    ∀ k i m news, i + k = n → Inv i m news → RangeRest prog w A E h₀ env x body Q s I a n k i m news
  | 0, i, m, news, e, hI => fun h tk F N => fin m news (by rw [← e]; exact hI) h tk F N
  | k + 1, i, m, news, e, hI => fun t h tk F N => wpAny_mono (step i m news (by omega) hI t h tk F N) (fun f s₂ p => UnrPost.mono (fun m' n' q => rangeRest_ind Inv step fin k (i + 1) m' n' (by omega) q) p) fun _ _ z => z
theorem tupRest_ind {I : Addr} {lp : Addr × Obj} (Inv : List Value → (PySem.Str → Option Value) → Led → Prop)
    (step : ∀ v r m news, Inv (v :: r) m news → ∀ (it : Obj) h tk, it.cls = .type "tuple_iterator" → isRd it = false → Fr h₀ env.locals h (fun y => if y = x then some v else m y) → News h₀ env.locals h ((I, it) :: news) →
      wpAny (model prog w) A (execs body env) (UnrPost h₀ env.locals { s with heap := h, toks := tk } I it (fun m' n' => lp ∈ n' ∧ Inv r m' n') Q) E { s with heap := h, toks := tk })
    (fin : ∀ m news, Inv [] m news → ∀ h tk, Fr h₀ env.locals h m → News h₀ env.locals h news → Q .next { s with heap := h, toks := tk }) :
    ∀ vs m news, Inv vs m news → TupRest prog w A E h₀ env x body Q s I lp vs m news
  | [], m, news, hI => fun h tk F N => fin m news hI h tk F N
  | v :: r, m, news, hI => fun it h tk hc hr F N => wpAny_mono (step v r m news hI it h tk hc hr F N) (fun f s₂ p => UnrPost.mono (fun m' n' q => ⟨q.1, tupRest_ind Inv step fin r m' n' q.2⟩) p) fun _ _ z => z
theorem iter_rangeHold {r : Addr} {b₀ : Int} {t₀ u₀ v₀ : Tok} {n : Nat} {m₀ : PySem.Str → Option Value} {news : Led}
    (hh : A.handled = none) (hr : IsRange s.heap r 0 b₀ 1 t₀ u₀ v₀) (hb : b₀ = (n : Int)) (hn : n < 1000) (F : Fr h₀ env.locals s.heap m₀) (N : News h₀ env.locals s.heap news)
    (rest₀ : Hold (∀ I : Addr, (∀ p ∈ news, p.1 < I) → RangeRest prog w A E h₀ env x body Q s I 0 n n 0 m₀ news)) :
    wpAny (model prog w) A (pyIter (.ref r)) (fun it s₂ => LoopAtV prog w A h₀ env x body Q E it s₂) E s := by
  subst hb
  refine iter_rangeUnr hh hr (small_one (by decide) (by decide) (by omega) (by omega)) ?_ F N rest₀.out
  rw [rangeSize_one]; split <;> omega
theorem iter_tupHold {ax : Addr} {vs : List Value} {n : Nat} {m₀ : PySem.Str → Option Value} {news : Led}
    (hh : A.handled = none) (F : Fr h₀ env.locals s.heap m₀) (N : News h₀ env.locals s.heap news) (hm : (ax, tupO vs n) ∈ news)
    (rest₀ : Hold (∀ I : Addr, (∀ p ∈ news, p.1 < I) → TupRest prog w A E h₀ env x body Q s I (ax, tupO vs n) vs m₀ news)) :
    wpAny (model prog w) A (pyIter (.ref ax)) (fun it s₂ => LoopAtV prog w A h₀ env x body Q E it s₂) E s := iter_tupUnr hh F N hm rfl rfl rest₀.out
end
end Mine
end

section
open PySem PySem.W PyProof.Rows PySem.Calls PySem.Spec PySem.SeqAt
set_option maxRecDepth 100000
namespace Mine
def shal : Nat → Dat → Bool
  | _, .none => true
  | _, .bool _ => true
  | _, .int _ => true
  | _, .str _ => true
  | _, .bytes _ => true
  | n + 1, .tuple ds => ds.all (shal n)
  | _, _ => false
theorem allTrue {n : Nat} : (List.range n).all (fun _ => true) = true := by simp
theorem eq_dat {h : Heap} {n₁ n₂ : List (Addr × Obj)} (N₁ : ∀ q ∈ n₁, h.get? q.1 = some q.2) (N₂ : ∀ q ∈ n₂, h.get? q.1 = some q.2) :
    ∀ (n : Nat) (d : Dat) (A : Around) (s : Shared) (v v' : Value), s.heap = h → shal n d = true → DatIn n₁ v d → DatIn n₂ v' d → A.units + n < cLine → EqAt A s v v' true := by
  intro n
  induction n with
  | zero =>
    intro d A s v v' hs hd h1 h2 hu
    cases h1 with
    | none => cases h2; exact .same _
    | bool b => cases h2; exact .same _
    | int i t => cases h2 with | int _ u => exact (beq_self_eq_true i) ▸ EqAt.int_int i t i u
    | str x t => cases h2 with | str _ u => exact (beq_self_eq_true x) ▸ EqAt.str_str x t x u
    | bytes b t => cases h2 with | bytes _ u => exact fun prog w E Q q => eqBool_bytes (by rw [decide_eq_true rfl]; exact q)
    | tuple _ _ => simp [shal] at hd
    | list _ _ => simp [shal] at hd
  | succ n ih =>
    intro d A s v v' hs hd h1 h2 hu
    cases h1 with
    | none => cases h2; exact .same _
    | bool b => cases h2; exact .same _
    | int i t => cases h2 with | int _ u => exact (beq_self_eq_true i) ▸ EqAt.int_int i t i u
    | str x t => cases h2 with | str _ u => exact (beq_self_eq_true x) ▸ EqAt.str_str x t x u
    | bytes b t => cases h2 with | bytes _ u => exact fun prog w E Q q => eqBool_bytes (by rw [decide_eq_true rfl]; exact q)
    | list _ _ => simp [shal] at hd
    | @tuple a vs k ds hm r =>
      cases h2 with
      | @tuple a' vs' k' _ hm' r' =>
        by_cases e : a = a'
        · subst e; exact .same _
        refine .of_refs e ?_
        have hl : s.heap.IsTuple a vs.toArray := ⟨_, by rw [hs]; exact N₁ _ hm, rfl, _, rfl⟩
        have hl' : s.heap.IsTuple a' vs'.toArray := ⟨_, by rw [hs]; exact N₂ _ hm', rfl, _, rfl⟩
        have e1 := r.length
        have e2 := r'.length
        have R := RcAt.tuples (A := A) (e := fun _ => true) hl hl' (by omega) (fun j h1 h2 => by
          have hj : j < ds.length := by simp at h1; omega
          have hd' : ∀ d ∈ ds, shal n d = true := by simpa [shal] using hd
          obtain ⟨x, hx, dx⟩ := r.get hj
          obtain ⟨y, hy, dy⟩ := r'.get hj
          have ex : vs.toArray[j] = x := by
            have := List.getElem?_eq_some_iff.mp hx
            obtain ⟨_, q⟩ := this
            simpa using q
          have ey : vs'.toArray[j] = y := by
            have := List.getElem?_eq_some_iff.mp hy
            obtain ⟨_, q⟩ := this
            simpa using q
          rw [ex, ey]
          exact ih _ A.in1 s _ _ hs (hd' _ (List.getElem_mem hj)) dx dy (by rw [units_in1]; omega))
        have e3 : ((List.range (min vs.toArray.size vs'.toArray.size)).all (fun _ => true) && vs.toArray.size == vs'.toArray.size) = true := by
          rw [allTrue]; simp; omega
        rw [e3] at R
        exact R
theorem eq_tups {prog : Program} {w : World} {A : Around} {E : Value → Shared → Prop} {s : Shared} {Q : Value → Shared → Prop} {a b : Addr} {n₁ n₂ : List (Addr × Obj)} (N₁ : ∀ q ∈ n₁, s.heap.get? q.1 = some q.2) (N₂ : ∀ q ∈ n₂, s.heap.get? q.1 = some q.2) {ds : List Dat} {n : Nat}
    (hd : shal n (.tuple ds) = true) (h1 : DatIn n₁ (.ref a) (.tuple ds)) (h2 : DatIn n₂ (.ref b) (.tuple ds)) (hab : a ≠ b) (hu : A.units + n < cLine) (h : Q (.bool true) s) : wpAny (model prog w) A (compareOp .Eq (.ref a) (.ref b)) Q E s := by
  cases n with
  | zero => simp [shal] at hd
  | succ n =>
  cases h1 with
  | @tuple _ vs k _ hm r =>
  cases h2 with
  | @tuple _ vs' k' _ hm' r' =>
  have hl : s.heap.IsTuple a vs.toArray := ⟨_, N₁ _ hm, rfl, _, rfl⟩
  have hl' : s.heap.IsTuple b vs'.toArray := ⟨_, N₂ _ hm', rfl, _, rfl⟩
  have e1 := r.length
  have e2 := r'.length
  refine eq_tupleAt (e := fun _ => true) hl hl' (by omega) (fun j h1 h2 => ?_) ?_
  · have hj : j < ds.length := by simp at h1; omega
    have hd' : ∀ d ∈ ds, shal n d = true := by simpa [shal] using hd
    obtain ⟨x, hx, dx⟩ := r.get hj
    obtain ⟨y, hy, dy⟩ := r'.get hj
    have ex : vs.toArray[j] = x := by
      obtain ⟨_, q⟩ := List.getElem?_eq_some_iff.mp hx
      simpa using q
    have ey : vs'.toArray[j] = y := by
      obtain ⟨_, q⟩ := List.getElem?_eq_some_iff.mp hy
      simpa using q
    rw [ex, ey]
    exact eq_dat N₁ N₂ n _ A.in1 s _ _ rfl (hd' _ (List.getElem_mem hj)) dx dy (by rw [units_in1]; omega)
  · have e3 : ((List.range (min vs.toArray.size vs'.toArray.size)).all (fun _ => true) && vs.toArray.size == vs'.toArray.size) = true := by
      rw [allTrue]; simp; omega
    rw [e3]; exact h
end Mine
end

section
open PySem PySem.W PyProof.Rows PySem.Calls PySem.Spec
set_option maxRecDepth 100000
namespace Mine
theorem reg_Br_0 : True := by
  k_with_none
  (k_with "room" => (first | exact room_le (by assumption) rfl rfl | ktr_room | ktr_units))
  (k_with "room0" => (first | exact room_lt (by assumption) rfl | ktr_room | (simp only [A9, depth_under_make, depth_deeper]; omega)))
  (k_with "sR" => (simp only [Int.reduceAdd, Int.reduceToNat, Nat.add_zero, Nat.zero_add, Nat.add_assoc, Nat.reduceAdd] at hR'))
  (k_with "sB" => (simp only [Int.reduceAdd, Int.reduceToNat, Nat.add_zero, Nat.zero_add, Nat.add_assoc, Nat.reduceAdd] at hb'))
  (k_with "fold" => ((fail_if_success (fail_if_success k_fold)); refine' (let qk := _; (?_ : wpAny _ _ _ qk _ _))))
  (k_with "nextQ" => (first | with_reducible refine nextQ_next ?_ | with_reducible refine nextQ_ret ?_ | with_reducible refine nextQ_brk ?_ | with_reducible refine nextQ_cont ?_))
  (k_with "outQ" => (first | with_reducible refine outQ_ret ?_ | with_reducible refine outQ_next ?_))
  (k_with "outE" => (with_reducible refine outE_go ?_))
  (k_with "resR" => (first | with_reducible refine resR_ret ?_ | with_reducible refine resR_err ?_))
  (k_with "rdM" => (first | exact rdM_365 rfl X | exact rdM_379 rfl X | exact rdM_386 rfl X | exact rdM_394 rfl X | exact rdM_401 rfl X | exact rdM_408 rfl X | exact rdM_415 rfl X | exact rdM_422 rfl X | exact rdM_437 rfl X | exact rdM_444 rfl X | exact rdM_459 rfl X | exact rdM_466 rfl X | exact rdM_473 rfl X | exact rdM_480 rfl X | exact rdM_487 rfl X | exact rdM_508 rfl X))
  (k_with "fnM" => (first | exact fnM_29 rfl X | exact fnM_36 rfl X | exact fnM_50 rfl X | exact fnM_57 rfl X | exact fnM_64 rfl X | exact fnM_71 rfl X | exact fnM_139 rfl X | exact fnM_181 rfl X | exact fnM_174 rfl X | exact fnM_188 rfl X | exact fnM_195 rfl X | exact fnM_202 rfl X | exact fnM_209 rfl X | exact fnM_216 rfl X | exact fnM_230 rfl X | exact fnM_237 rfl X | exact fnM_244 rfl X | exact fnM_251 rfl X | exact fnM_258 rfl X | exact fnM_265 rfl X | exact fnM_272 rfl X | exact fnM_279 rfl X | exact fnM_286 rfl X | exact fnM_293 rfl X | exact fnM_300 rfl X | exact fnM_337 rfl X | exact fnM_342 rfl X | exact fnM_522 rfl X | exact fnM_527 rfl X | exact fnM_547 rfl X | exact fnM_561 rfl X | exact fnM_568 rfl X | exact fnM_582 rfl X | exact fnM_610 rfl X))
  (k_with "newTuple" => (walk_at "nt on"; k_here; kup_bare; k_dflt (refine' kup_newTuple ?F ?N ?_ ?z; (case F => k_asm); (case N => k_asm); (case z => kmk_size)); refine' (fun D' h' => let nn9 : Led := _; fun F' (N' : News _ _ _ nn9) l1 => ?_); (try k_lt l1); (try k_sweep)))
  (k_with "newList" => (walk_at "nt on"; k_here; k_dflt (refine' newList_K ?k1 ?k2 ?_; (case k1 => k_asm); (case k2 => k_asm); k_whole); refine' (fun l' h' => let nn9 : Led := _; fun F' (N' : News _ _ _ nn9) l1 => ?_); (try k_lt l1); (try k_sweep)))
  (k_with "storeName" => (k_here; with_reducible (refine' storeV ?k1 ?k2 ?hV ?hx ?_; (case hV => assumption); k_dflt ((case k1 => k_asm); (case k2 => k_asm); (case hx => exact rfl); k_whole)); refine' (let mm9 : PySem.Str → Option Value := _; fun h' (F' : Fr _ _ h' mm9) N' => ?_); (try k_sweep)))
  (k_with "spliced" => (k_here; (with_reducible show wpAny _ _ (spliced (backTo _ (starEach (_ :: _) _))) _ _ _); with_reducible (refine' argsV ?k1 ?hV ?hv ?_; (case hV => assumption); k_dflt ((case k1 => k_asm); (case hv => first | exact rfl | with_unfolding_all rfl); k_whole))))
  (k_with "eval Name" => (k_here; with_reducible (refine' nameV ?k1 ?hV ?hv ?_; (case hV => assumption); k_dflt ((case k1 => k_asm); (case hv => first | exact rfl | with_unfolding_all rfl); k_whole))))
  (k_with "eval Call" => (k_here; (with_reducible show wpAny _ _ (eval (Expr.Call (Expr.Name _ _) _ [] _) _) _ _ _); (try walk_at "fold"); with_reducible (refine' fcall ?k1 ?k2 ?k3 ?hV ?hx ?hM ?hv ?_; (case hM => walk_at "fnM"); (case hV => assumption); k_dflt ((case hx => exact rfl); (case k1 => k_asm); (case k2 => k_asm); (case k3 => k_asm); (case hv => first | exact rfl | with_unfolding_all rfl); k_whole))))
  (k_with "eval Call Attribute" => (k_here; (with_reducible show wpAny _ _ (eval (Expr.Call (Expr.Attribute (Expr.Name _ _) _ _) _ [] _) _) _ _ _); (try walk_at "fold"); with_reducible (refine' mcall ?k1 ?k2 ?k3 ?hV ?hv ?hR ?hM ?he ?_; (case hM => walk_at "rdM"); (case hV => assumption); k_dflt ((case k1 => k_asm); (case k2 => k_asm); (case k3 => k_asm); (case hv => first | exact rfl | with_unfolding_all rfl); (case hR => walk_at "RS"); (case he => exact rfl); k_whole))))
  (k_with "nt on" => ((fail_if_success walk_at "off_Br"); (skip)))
  (k_with "getMethod ref" => (k_here; k_dflt (refine' rd_method ?k1 ?k2 ?k3 ?k4 ?k5 ?k6 ?k7 ?k8 ?_; (case k1 => k_asm); (case k2 => k_asm); (case k3 => k_asm); (case k4 => walk_at "RS"); (case k5 => k_is); (case k6 => k_is); (case k7 => k_is); (case k8 => decide); k_whole)))
  (k_with "execs cons" => (k_here; first | (with_reducible refine execs1 ?_) | (refine execsV ?_; walk_at "fold")))
  (k_with "ktr_enter" => (refine' code_def ?k1 ?k2 ?k3 ?k4 ?k5 ?kA ?kF ?kK ?k6 ?k7 ?k8 ?k9 ?kB ?_ ?c2 ?c3 ?c4 ?c5; (case kA => exact rfl); (case kF => exact rfl); (case kK => assumption); (case k1 => k_asm); (case k2 => k_asm); (case k3 => k_asm); (case k4 => k_asm); (case k5 => k_asm); (case k6 => k_is); (case k7 => k_is); (case k8 => walk_at "room0"); (case k9 => (rename Binds _ _ _ _ => hbX; exact hbX _ (by k_in))); (case c5 => decide); (case kB => exact locs rfl); (case c2 => exact rfl); (case c3 => exact rfl); (case c4 => exact rfl); k_whole; intro g' L' h' FG'; refine' (let mm9 : PySem.Str → Option Value := _; fun (F' : Fr _ _ _ mm9) N' B' X' T' => ?_); (try dsimp only); refine' (let e9 : PySem.Env := _; let A9 : PySem.Around := PySem.Around.deeper _ e9; let rk := resR _ _; let qk := outQ _ _ _ _ rk; let ek := outE _ A9 e9 rk; (?_ : wpAny _ A9 (execs _ e9) qk ek _)); (have hV9 : FnEnv e9 _ := FnEnv.of (by exact rfl))))
  (k_with "k_mem" => first | ((show _ ∈ _); ktr_member) | exact List.Mem.head _ | (refine' List.mem_cons_of_mem _ ?_; k_mem))
  (k_with "k_mem" => first | ((show _ ∈ _); ktr_member) | exact List.Mem.head _ | (refine' List.mem_cons_of_mem _ ?_; k_mem) | (refine sub_at (by assumption) ?_; k_mem) | (refine keep_at (by assumption) (by first | rfl | decide +kernel) ?_; k_mem) | (refine butC_at (by assumption) tup_nl ?_; k_mem))
  (k_with "k_mem" => first | ((show _ ∈ _); ktr_member) | exact List.Mem.head _ | (refine' List.mem_cons_of_mem _ ?_; k_mem) | (refine sub_at (by assumption) ?_; k_mem) | (refine keep_at (by assumption) (by first | rfl | decide +kernel) ?_; k_mem) | (refine keepT_at (by assumption) rfl (fun z => nomatch z) ?_; k_mem) | (refine tab_at (by assumption) (fun z => nomatch z) ?_; k_mem) | (refine butC_at (by assumption) tup_nl ?_; k_mem))
  (k_with "k_mem" => first | ((show _ ∈ _); ktr_member) | exact List.Mem.head _ | (refine' List.mem_cons_of_mem _ ?_; k_mem) | (refine sub_at (by assumption) ?_; k_mem) | (refine keep_at (by assumption) (by first | rfl | assumption | decide +kernel) ?_; k_mem) | (refine keepT_at (by assumption) (by first | rfl | assumption) (by first | exact (fun z => nomatch z) | exact it_nn (by assumption)) ?_; k_mem) | (refine tab_at (by assumption) (fun z => nomatch z) ?_; k_mem) | (refine butC_at (by assumption) (by first | exact tup_nl | exact it_nl (by assumption) | exact ty_ne (by decide) | exact (fun z => nomatch z)) ?_; k_mem) | (refine butIt_at (by assumption) (by first | exact ty_ne (by decide) | exact (fun z => nomatch z)) (by first | exact ty_ne (by decide) | exact it_nr (by assumption) | exact (fun z => nomatch z)) ?_; k_mem) | (refine but_at (by assumption) ?_ (by first | exact (ne_lt (by assumption) (by assumption)) | exact Ne.symm (Nat.ne_of_lt (by assumption))); k_mem))
  (k_with "RS" => first | assumption | exact RS.sub1 (by assumption) | exact RS.sub1 (RS.sub1 (by assumption)) | exact RS.sub1 (RS.sub1 (RS.sub1 (by assumption))) | exact RS.sub1 (RS.sub1 (RS.sub1 (RS.sub1 (by assumption)))) | exact RS.sub1 (RS.sub1 (RS.sub1 (RS.sub1 (RS.sub1 (by assumption))))) | exact RS.sub1 (RS.sub1 (RS.sub1 (RS.sub1 (RS.sub1 (RS.sub1 (by assumption)))))))
  (k_with "gotn" => (first | ((fail_if_success (intro v' n' h' tk' F' N' hv'; simp only [Int.reduceAdd, Int.reduceToNat, Nat.add_zero, Nat.zero_add, Nat.add_assoc, Nat.reduceAdd] at hv')); first | (with_reducible refine got_v ?_; intro h' tk' F' N') | (with_reducible refine' got_pk ?ho ?_; (case ho => with_reducible assumption); intro x' dx' ta' t1' t2' tn' e' tt' nn' h' tk' F' N' hx' hdx' hta') | (with_reducible refine got_pn ?ho ?_; (case ho => with_reducible assumption); intro h' tk' F' N') | (with_reducible refine got_ps ?hn ?_; (case hn => exact (fun h9 => no_kind h9 (by with_reducible assumption))); intro td' x' dx' ta' t1' t2' tn' e' tt' nn' h' tk' F' N' ht' hx' hdx' hta') | (with_reducible refine got_p2 (fun ht' h' tk' F' N' => ?_) (fun td' x' dx' ta' t1' t2' tn' e' tt' nn' h' tk' F' N' ht' hx' hdx' hta' => ?_)) | (with_reducible refine got_x ?_; intro t' h' tk' F' N')) | (with_reducible refine got_tk ?_; intro x' dx' ta' t1' t2' tn' e' tt' nn' n' h' tk' F' N' hR' hK' hx' hdx' hta'; (try walk_at "sR")) | (with_reducible refine got_xm ?_; intro t' n' h' tk' F' N' hR' hK'; (try walk_at "sR")) | (with_reducible refine got_vm ?_; intro n' h' tk' F' N' hR' hK'; (try walk_at "sR")) | (with_reducible refine got_skF ?hn ?_; (case hn => first | exact (fun h9 => no_bool h9 (by assumption)) | exact (fun h9 => no_tokIs (by assumption) h9 (by first | rfl | decide))); intro hb' h' tk' F' N'; (try walk_at "sB")) | (with_reducible refine got_skT ?hn ?_; (case hn => first | exact (fun h9 => no_bool (by assumption) h9) | exact (fun h9 => no_tokIs' (by assumption) h9 (by first | rfl | decide))); intro hb' n' h' tk' F' N' hR' hK'; (try walk_at "sR"); (try walk_at "sB")) | ((with_reducible refine got_sk (fun hb' n' h' tk' F' N' hR' hK' => ?_) (fun hb' h' tk' F' N' => ?_)) <;> ((try walk_at "sR"); (try walk_at "sB"))) | (refine got_xs ?_; intro t' n' h' tk' F' N' hs'; (fail_if_success (have h9 := And.left hs')); (try (have hR' := RS.sub (by walk_at "RS") hs'))) | (refine got_tp ?_; intro a' t1' t2' n' h' tk' F' N' hm' hs'; (fail_if_success (have h9 := And.left hs')); (try (have hR' := RS.sub (by walk_at "RS") hs')))))
  (k_with "got" => (first | walk_at "gotn" | (intro v' n' h' tk' F' N' hv'; simp only [Int.reduceAdd, Int.reduceToNat, Nat.add_zero, Nat.zero_add, Nat.add_assoc, Nat.reduceAdd] at hv'; revert v' n' h' tk' F' N' hv'; walk_at "gotn") | (intro v' n' h' tk' F' N' hv'; (try simp only [Int.reduceAdd, Int.reduceToNat, Nat.add_zero, Nat.zero_add, Nat.add_assoc, Nat.reduceAdd] at hv'); revert hv'; walk_at "got more")))
  (k_with "call ref" => (k_here; (with_reducible show wpAny _ _ (call (Value.ref _) _) _ _ _); (try walk_at "fold"); k_dflt (refine' Does.use0 ?H ?k1 ?k2 ?k3 ?k4 ?k5 ?k6 ?kd ?ku ?_; (case k1 => k_asm); (case k2 => k_asm); (case k3 => k_asm); (case k4 => k_asm); (case k5 => k_asm); (case H => ((try dsimp only [List.cons_append, List.nil_append]); walk_at "does")); (case k6 => first | rfl | assumption); (case kd => walk_at "room"); (case ku => walk_at "room"); k_whole); k_dflt (walk_at "got")))
  (k_with "call ref" => (k_here; (with_reducible show wpAny _ _ (call (Value.ref _) _) _ _ _); (try walk_at "fold"); k_dflt (refine' DoesR.use ?H ?k1 ?k2 ?k3 ?k4 ?k5 ?k6 ?kd ?ku ?_ ?_; (case k1 => k_asm); (case k2 => k_asm); (case k3 => k_asm); (case k4 => k_asm); (case k5 => k_asm); (case H => ((try dsimp only [List.cons_append, List.nil_append]); walk_at "doesR")); (case k6 => first | rfl | assumption); (case kd => walk_at "room"); (case ku => walk_at "room"); k_whole); focus (k_dflt (walk_at "got"))))
  (k_with "call type:tuple" => ((fail_if_success walk_at "off_Br"); (k_here; (with_reducible show wpAny _ _ (call (Value.type _) [Value.ref _]) _ _ _); k_dflt (refine' kde_tupleOf ?k1 ?k2 ?k3 ?k4 ?k5 ?_; (case k1 => k_asm); (case k2 => k_asm); (case k3 => exact News.isList (by k_asm) (by k_mem)); (case k4 => ((try simp only [Array.size_push]); omega)); (case k5 => exact rfl); k_whole); intro D' h' F' N' l1; (try k_lt l1))))
  (k_with "Keep" => (intro q9 hq9 hi9; repeat' (first | exact hq9 | refine sub_at (by assumption) ?_ | refine keep_at (by assumption) hi9 ?_ | refine List.mem_cons_of_mem _ ?_ | refine but_at (by assumption) ?_ ?_ | refine ne_lt (by assumption) ?_ | refine ne_all (by first | assumption | exact And.right (by assumption)) ?_)))
  (k_with "Tb" => first | assumption | (refine Tb.keep ?_ (by assumption); walk_at "Tb") | (refine Tb.cons ?_; walk_at "Tb") | (refine Tb.sub ?_ (by assumption); walk_at "Tb") | (refine Tb.butC ?_ (by assumption); walk_at "Tb"))
  (k_with "Tb" => first | assumption | (refine Tb.keep ?_ (by assumption); walk_at "Tb") | (refine Tb.cons ?_; walk_at "Tb") | (refine Tb.sub ?_ (by assumption); walk_at "Tb") | (refine Tb.butC ?_ (by assumption); walk_at "Tb") | (refine Tb.butIt ?_ (by assumption); walk_at "Tb"))
  (k_with "KeepT" => (intro q9 hq9 hi9 hn9; repeat' (first | exact hq9 | refine sub_at (by assumption) ?_ | refine keep_at (by assumption) hi9 ?_ | refine keepT_at (by assumption) hi9 hn9 ?_ | refine tab_at (by assumption) hn9 ?_ | refine List.mem_cons_of_mem _ ?_ | refine but_at (by assumption) ?_ ?_ | refine ne_lt (by assumption) ?_ | refine ne_all (by first | assumption | exact And.right (by assumption)) ?_)))
  (k_with "KeepT" => (intro q9 hq9 hi9 hn9; repeat' (first | exact hq9 | refine sub_at (by assumption) ?_ | refine keep_at (by assumption) hi9 ?_ | refine keepT_at (by assumption) hi9 hn9 ?_ | refine tab_at (by assumption) hn9 ?_ | refine List.mem_cons_of_mem _ ?_ | refine but_at (by assumption) ?_ ?_ | refine ne_lt (by assumption) ?_ | refine ne_all (by first | assumption | exact And.right (by assumption)) ?_)))
  (k_with "got more" => (intro hv'; obtain ⟨hp', hs'⟩ := hv'; (first | (obtain ⟨t', hv'⟩ := hp'; subst hv') | (obtain ⟨a', t1', t2', hv', hm'⟩ := hp'; subst hv')); (try (have hR' := RS.sub (by walk_at "RS") hs'))))
  (k_with "got more" => ((fail_if_success walk_at "off_Br"); (intro hv'; obtain ⟨hok', ⟨a', b1', t1', k1', k2', hv', hm1', hm2'⟩, hR', hK'⟩ := hv'; subst hv'; (have hd' := body1_dat hm1' hm2'))))
  (k_with "exec For Name Name cons nil" => (k_here; (rename Fr _ _ _ _ => lF'); (with_unfolding_all refine' For_invVF lF' ?k1 ?k2 ?_; (case k1 => exact rfl); (case k2 => exact rfl); k_whole)))
  (k_with "exec For Name Call cons nil" => (k_here; (rename Fr _ _ _ _ => lF'); (with_unfolding_all refine' For_invVF lF' ?k1 ?k2 ?_; (case k1 => exact rfl); (case k2 => exact rfl); k_whole)))
  (k_with "pyIter ref" => ((with_reducible show wpAny _ _ (pyIter (Value.ref _)) (fun it s₂ => LoopAtV _ _ _ _ _ _ _ _ _ it s₂) _ _); k_here; (rename Fr _ _ _ _ => lF'); (rename News _ _ _ _ => lN'); (with_unfolding_all refine iter_tupHold (by rfl) lF' lN' (by k_mem) ?_)))
  (k_with "pyIter ref" => ((fail_if_success walk_at "off_Br"); ((with_reducible show wpAny _ _ (pyIter (Value.ref _)) (fun it s₂ => LoopAtV _ _ _ _ _ _ _ _ _ it s₂) _ _); k_here; (rename IsRange _ _ _ _ _ _ _ _ => rgX); (rename Fr _ _ _ _ => lF'); (rename News _ _ _ _ => lN'); (with_unfolding_all refine iter_rangeHold (by rfl) rgX (by first | rfl | assumption) (by first | assumption | omega) lF' lN' ?_))))
  (k_with "call builtin:list.append" => (k_here; (with_reducible show wpAny _ _ (call (Value.builtin _) [Value.ref _, _]) _ _ _); (rename News _ _ _ _ => lN'); k_dflt (refine' append_led ?k1 ?k2 ?k3 ?k4 ?_; (case k1 => k_asm); (case k2 => exact lN'); (case k3 => k_mem); (case k4 => first | exact Nat.le_of_ble_eq_true rfl | assumption | (simp only [List.size_toArray]; omega)); k_whole); intro h' n' F' N' hm' hb' ho' hc'; (try (k_dflt (have hR' := RS.but lN' (by walk_at "RS") ho' (by first | assumption | exact len_pos (by assumption)) (by first | exact .inl rfl | assumption | exact .inr ⟨_, _, _, rfl, by k_mem⟩ | exact NoToks.up (by assumption) (by walk_at "Tups")) hb')))))
  (k_with "UnrEnd" => ((fail_if_success walk_at "off_Br"); ((rename News _ _ _ _ => lN'); k_dflt (refine unrEnd_g (by assumption) lN' (by k_mem) (by first | exact .inr rfl | exact .inl (by assumption)) ?_); intro n2' hb2' hi2'; (try (k_dflt (have hR' := RS.butIt (by walk_at "RS") hi2'))); (try (k_dflt (refine And.intro (by k_mem) ?_))))))
  (k_with "DatL" => first | exact DatAll.nil | (refine DatAll.cons (by walk_at "Dat") (by walk_at "DatL")))
  (k_with "Dat" => first | assumption | exact DatIn.str _ _ | exact DatIn.int _ _ | exact DatIn.none | exact DatIn.bool _ | (refine DatIn.tuple (List.Mem.head _) ?_; walk_at "DatL") | (refine DatIn.mono (fun _ h9 => List.mem_cons_of_mem _ h9) ?_; walk_at "Dat") | (refine DatIn.keep (by assumption) ?_; walk_at "Dat") | (refine DatIn.keepT (by assumption) ?_; walk_at "Dat") | (refine DatIn.butC (by assumption) ?_ (by first | rfl | exact Op.noL _ | assumption); walk_at "Dat") | (refine DatIn.butIt (by assumption) ?_; walk_at "Dat") | (refine DatIn.mono (by assumption) ?_; walk_at "Dat"))
  (k_with "DatAll" => ((fail_if_success walk_at "off_Br"); first | assumption | (refine DatAll.butIt (by assumption) ?_; walk_at "DatAll") | (refine DatAll.mono (fun _ h9 => List.mem_cons_of_mem _ h9) ?_; walk_at "DatAll") | (refine DatAll.keep (by assumption) ?_; walk_at "DatAll") | (refine DatAll.keepT (by assumption) ?_; walk_at "DatAll") | (refine DatAll.butC (by assumption) ?_ (by assumption); walk_at "DatAll") | (refine DatAll.mono (by assumption) ?_; walk_at "DatAll")))
  (k_with "Tups" => ((fail_if_success walk_at "off_Br"); (intro y9 v9 n9 h9; repeat' (first | exact h9 | refine butIt_at (by assumption) (ty_ne (by decide)) (ty_ne (by decide)) ?_ | refine butC_at (by assumption) tup_nl ?_ | refine List.mem_cons_of_mem _ ?_ | refine keepT_at (by assumption) rfl (fun z => nomatch z) ?_ | refine keep_at (by assumption) rfl ?_ | refine sub_at (by assumption) ?_))))
  trivial
def OpenF (tds : Tds) (p : Nat) (n : Int) : Prop :=
  (n = 0 ∧ tokIs tds p "word" "ON" = false ∧ tokIs tds p "word" "OVERFLOW" = false ∧ tokIs tds p "word" "EXCEPTION" = false) ∨ (n = 1 ∧ tokIs tds p "word" "ON" = false ∧ tokIs tds p "word" "OVERFLOW" = true) ∨ (n = 1 ∧ tokIs tds p "word" "ON" = false ∧ tokIs tds p "word" "OVERFLOW" = false ∧ tokIs tds p "word" "EXCEPTION" = true) ∨
  (n = 2 ∧ tokIs tds p "word" "ON" = true ∧ tokIs tds (p + 1) "word" "OVERFLOW" = true) ∨ (n = 2 ∧ tokIs tds p "word" "ON" = true ∧ tokIs tds (p + 1) "word" "OVERFLOW" = false ∧ tokIs tds (p + 1) "word" "EXCEPTION" = true)
def OpenN (tds : Tds) (p : Nat) (n : Int) : Prop :=
  (n = 0 ∧ tokIs tds p "word" "NOT" = false) ∨ (n = 2 ∧ tokIs tds p "word" "NOT" = true ∧ tokIs tds (p + 1) "word" "ON" = false ∧ tokIs tds (p + 1) "word" "EXCEPTION" = true) ∨ (n = 3 ∧ tokIs tds p "word" "NOT" = true ∧ tokIs tds (p + 1) "word" "ON" = true ∧ tokIs tds (p + 2) "word" "EXCEPTION" = true)
theorem open_f (w : World) (r : Addr) (news : Led) (tds : Tds) (p : Nat) (hR : RS news r tds p) (kt : Nat) (n : Int) (h : OpenF tds p n) :
    Does w 258 [.ref r, .str "fault" kt] 80 900 news (fun v news' => (∃ t, v = .int n t) ∧ (∀ q ∈ news, q ∈ news')) (fun _ _ => False) := by
  rcases h with ⟨rfl, a, b, c⟩ | ⟨rfl, a, b⟩ | ⟨rfl, a, b, c⟩ | ⟨rfl, a, b⟩ | ⟨rfl, a, b, c⟩
  · exact open_f0 w r news tds p hR kt a b c
  · exact open_fo w r news tds p hR kt a b
  · exact open_fe w r news tds p hR kt a b c
  · exact open_foo w r news tds p hR kt a b
  · exact open_foe w r news tds p hR kt a b c
theorem open_n (w : World) (r : Addr) (news : Led) (tds : Tds) (p : Nat) (hR : RS news r tds p) (kt : Nat) (n : Int) (h : OpenN tds p n) :
    Does w 258 [.ref r, .str "not fault" kt] 80 900 news (fun v news' => (∃ t, v = .int n t) ∧ (∀ q ∈ news, q ∈ news')) (fun _ _ => False) := by
  rcases h with ⟨rfl, a⟩ | ⟨rfl, a, b, c⟩ | ⟨rfl, a, b, c⟩
  · exact open_n0 w r news tds p hR kt a
  · exact open_ne w r news tds p hR kt a b c
  · exact open_noe w r news tds p hR kt a b c
def OpenK (tds : Tds) (p : Nat) (kk : PySem.Str) (n : Nat) : Prop := (kk = "fault" ∧ OpenF tds p n) ∨ (kk = "not fault" ∧ OpenN tds p n)
theorem open_k (w : World) (r : Addr) (news : Led) (tds : Tds) (p : Nat) (hR : RS news r tds p) (kk : PySem.Str) (kt : Nat) (n : Nat) (h : OpenK tds p kk n) :
    Does w 258 [.ref r, .str kk kt] 80 900 news (fun v news' => (∃ t, v = .int (n : Int) t) ∧ (∀ q ∈ news, q ∈ news')) (fun _ _ => False) := by
  rcases h with ⟨rfl, h⟩ | ⟨rfl, h⟩
  · exact open_f w r news tds p hR kt n h
  · exact open_n w r news tds p hR kt n h
def BodyOk (tds : Tds) (p : Nat) : Prop := tokIs tds p "word" "CONTINUE" = true ∧ tokIs tds (p + 1) "word" "CONTINUE" = false
def BodyBad (tds : Tds) (p : Nat) : Prop := tokIs tds p "word" "CONTINUE" = false
theorem body_both (w : World) (r : Addr) (news : Led) (tds : Tds) (p : Nat) (hR : RS news r tds p) (hb : BodyOk tds p ∨ BodyBad tds p) (hpos : 0 < tds.length) (hp : p < tds.length) (hTb : Tb news) :
    DoesR w 265 [.ref r, .ref 575] 200 2000 news (fun v news' => BodyOk tds p ∧ Body1 v news' ∧ RS news' r tds (p + 1) ∧ Keep news news') (fun i => BodyBad tds p ∧ i = p) := by
  rcases hb with h | h
  · exact (body_1 w r news tds p hR h.1 h.2 hpos).R.mono (by decide) (by decide) (fun v n q => ⟨h, q⟩) (fun i (z : False) => z.elim)
  · exact (body_raises w r news tds p hR h hpos hp hTb).R.mono (P := fun _ _ => False) (by decide) (by decide) (fun v n (z : False) => z.elim) (fun i z => ⟨h, z⟩)
def PhOk (tds : Tds) (p : Nat) (kk : PySem.Str) (n q : Nat) : Prop := OpenK tds p kk n ∧ ((n = 0 ∧ q = p) ∨ (0 < n ∧ n < 10 ∧ p + n < tds.length ∧ BodyOk tds (p + n) ∧ q = p + n + 1))
def PhBad (tds : Tds) (p : Nat) (kk : PySem.Str) (i : Nat) : Prop := ∃ n, OpenK tds p kk n ∧ 0 < n ∧ n < 10 ∧ p + n < tds.length ∧ BodyBad tds (p + n) ∧ i = p + n
def phD (kk : PySem.Str) (n : Nat) : List Dat := if n = 0 then [] else [.tuple [.str kk, bodyD]]
abbrev brMap (r D ka : Addr) (ot ol ok : Option Value) : PySem.Str → Option Value := fun y => if y = "turn" then ot else if y = "length" then ol else if y = "key" then ok else if y = "branches" then some (.ref D) else ([("reader", .ref r), ("read_body", .ref 575), ("keys", .ref ka)] : List (PySem.Str × Value)).reverse.lookup y
theorem bmap_key {r D ka : Addr} {ot ol ok v : Option Value} (y : PySem.Str) : (if y = ("key" : PySem.Str) then v else brMap r D ka ot ol ok y) = brMap r D ka ot ol v y := by
  by_cases h : y = ("key" : PySem.Str)
  · subst h; rfl
  · simp only [brMap, if_neg h]
theorem bmap_len {r D ka : Addr} {ot ol ok v : Option Value} (y : PySem.Str) : (if y = ("length" : PySem.Str) then v else brMap r D ka ot ol ok y) = brMap r D ka ot v ok y := by
  by_cases h : y = ("length" : PySem.Str)
  · subst h; rfl
  · simp only [brMap, if_neg h]
theorem bmap_turn {r D ka : Addr} {ot ol ok v : Option Value} (y : PySem.Str) : (if y = ("turn" : PySem.Str) then v else brMap r D ka ot ol ok y) = brMap r D ka v ol ok y := by
  by_cases h : y = ("turn" : PySem.Str)
  · subst h; rfl
  · simp only [brMap, if_neg h]
inductive BrInv (r D ka : Addr) (news : Led) (tds : Tds) (p : Nat) (done : List Dat) (m : PySem.Str → Option Value) (nw : Led) : Prop
  | mk (its : Array Value) (n : Nat) (ot ol ok : Option Value) : (m = brMap r D ka ot ol ok) → ((D, W.listOf its n) ∈ nw) → (its.size ≤ 10) → (DatAll nw its.toList done) → (noLs done = true) → (RS nw r tds p) → (KeepT news nw) → (Tb nw) → (NoToks its nw) → BrInv r D ka news tds p done m nw
inductive BrRun (tds : Tds) : List PySem.Str → Nat → List Dat → (Nat × List Dat) ⊕ Nat → Prop
  | nil {p : Nat} {done : List Dat} : BrRun tds [] p done (.inl (p, done))
  | ok {kk : PySem.Str} {ks : List PySem.Str} {p n q : Nat} {done : List Dat} {res : (Nat × List Dat) ⊕ Nat} : PhOk tds p kk n q → BrRun tds ks q (done ++ phD kk n) res → BrRun tds (kk :: ks) p done res
  | bad {kk : PySem.Str} {ks : List PySem.Str} {p i : Nat} {done : List Dat} : PhBad tds p kk i → BrRun tds (kk :: ks) p done (.inr i)
inductive BrLoop (r D ka : Addr) (news : Led) (tds : Tds) (res : (Nat × List Dat) ⊕ Nat) (vs : List Value) (m : PySem.Str → Option Value) (nw : Led) : Prop
  | mk (ks) (p) (done) : (StrsAre vs ks) → (BrRun tds ks p done res) → (done.length + ks.length ≤ 2) → (BrInv r D ka news tds p done m nw) → BrLoop r D ka news tds res vs m nw
theorem reg_Br_1 : True := by
  (k_with "does" => ((fail_if_success walk_at "off_Br"); first | with_reducible exact open_k _ _ _ _ _ (by walk_at "RS") _ _ _ (by assumption)))
  (k_with "does" => first | with_reducible exact take_does _ _ _ _ _ _ (by walk_at "RS") (by assumption))
  (k_with "doesR" => ((fail_if_success walk_at "off_Br"); first | with_reducible exact body_both _ _ _ _ _ (by walk_at "RS") (by assumption) (by assumption) (by assumption) (by walk_at "Tb")))
  trivial
set_option maxHeartbeats 8000000 in
theorem branches_does (w : World) (r : Addr) (news : Led) (tds : Tds) (p : Nat) (hR : RS news r tds p) (ka : Addr) (u1 u2 k : Nat) (hka : (ka, tupO [.str "fault" u1, .str "not fault" u2] k) ∈ news) (hpos : 0 < tds.length) (hTb : Tb news)
    (res : (Nat × List Dat) ⊕ Nat) (hsc : BrRun tds ["fault", "not fault"] p [] res) :
    DoesR w 272 [.ref r, .ref 575, .ref ka] 240 2600 news (fun v news' => ∃ q ds, res = .inl (q, ds) ∧ OpPost r tds news q (.tuple ds) v news') (fun i => res = .inr i) := by
  refine RS.elim hR fun rd tl e t nv n h1' h2' => ?_
  unfold DoesR
  k_fill
  intro _ dp un gd cn cs a ccd cl outer A₀ base h₀ L m mg mb mean s Q E B F X N T hk hd hu hret herr
  have hb : Binds w ob272 [.ref r, .ref 575, .ref ka] [("reader", .ref r), ("read_body", .ref 575), ("keys", .ref ka)] := .plain rfl
  refine wpAny_call ?_
  k_dflt ktr_enter
  k_steps
  have l' := 0; have l1 := 0; rename_i D9 _ l19
  refine Hold.mk (fun I hI => ?_)
  refine tupRest_ind (Inv := BrLoop r D9 ka news tds res) ?_ ?_ _ _ _ ?_
  · clear lF' lN'
    intro v rest m₁ nw hInv it h9 tk9 hc9 hrd9 F9 N9
    obtain ⟨ks, p', done, hvs, hrun, hlen, its, nD, ot, ol, ok, hm, hD, hsz, hdone, hnl, hR8, hK8, hT8, hNT⟩ := hInv
    subst hm
    replace F9 := Fr.congr F9 bmap_key
    have hl9 : its.size ≤ sizeLine := by rw [sizeLine_eq]; omega
    refine RS.elim hR8 fun rd tl e t nv n h1' h2' => ?_
    have hcase : ∃ kk ks' kt n, ks = kk :: ks' ∧ v = .str kk kt ∧ StrsAre rest ks' ∧ OpenK tds p' kk n ∧ ((n = 0 ∧ BrRun tds ks' p' done res) ∨ (0 < n ∧ n < 10 ∧ p' + n < tds.length ∧ (BodyOk tds (p' + n) ∨ BodyBad tds (p' + n)) ∧ (BodyOk tds (p' + n) → BrRun tds ks' (p' + n + 1) (done ++ [.tuple [.str kk, bodyD]]) res) ∧ (BodyBad tds (p' + n) → res = .inr (p' + n)))) := by
      cases hrun with
      | nil => cases hvs
      | @ok kk ks _ n q _ _ hph hrun =>
        cases hvs with
        | cons _ kt hvs =>
        obtain ⟨hop, hph⟩ := hph
        refine ⟨kk, ks, kt, n, rfl, rfl, hvs, hop, ?_⟩
        rcases hph with ⟨rfl, rfl⟩ | ⟨hn0, hn10, hlt, hbo, rfl⟩
        · refine .inl ⟨rfl, ?_⟩
          simpa [phD] using hrun
        · refine .inr ⟨hn0, hn10, hlt, .inl hbo, fun _ => ?_, fun hb => ?_⟩
          · rw [phD, if_neg (by omega)] at hrun; exact hrun
          · rw [BodyBad] at hb; rw [hbo.1] at hb; cases hb
      | bad hph =>
        cases hvs with
        | cons _ kt hvs =>
        obtain ⟨n, hop, hn0, hn10, hlt, hbb, rfl⟩ := hph
        exact ⟨_, _, kt, n, rfl, rfl, hvs, hop, .inr ⟨hn0, hn10, hlt, .inr hbb, fun hb => absurd (hb.1.symm.trans hbb) (by decide), fun _ => rfl⟩⟩
    clear hrun hvs
    obtain ⟨kk, ks, kt, n, rfl, rfl, hvs, hop, ⟨rfl, hrun⟩ | ⟨hn0, hn10, hlt, hbd, hrun, hbad⟩⟩ := hcase
    · k_steps
      exact ⟨ks, p', done, hvs, hrun, by simp at hlen; omega, its, nD, ot, _, _, funext fun y => bmap_len y, by k_mem, hsz, by walk_at "DatAll", hnl, by walk_at "RS", by walk_at "KeepT", by walk_at "Tb", NoToks.up hNT (by walk_at "Tups")⟩
    · k_steps
      refine Hold.mk (fun I2 hI2 => ?_)
      refine rangeRest_ind (Inv := fun i m nw' => ∃ ot2, m = brMap r D9 ka ot2 (some (.int (n : Int) t')) (some (.str kk kt)) ∧ RS nw' r tds (p' + i) ∧ Keep n' nw') ?_ ?_ _ _ _ _ (Nat.zero_add n) ?_
      · intro i m2 nw2 hi hInv2 t2 h2 tk2 F2 N2
        obtain ⟨ot2, hm2, hR2, hK2⟩ := hInv2
        subst hm2
        replace F2 := Fr.congr F2 bmap_turn
        obtain ⟨td2, ht2⟩ : ∃ td, tds[p' + i]? = some td := ⟨_, List.getElem?_eq_getElem (by omega)⟩
        refine RS.elim hR2 fun rd tl e t nv _ h1' h2' => ?_
        k_steps
      · intro m2 nw2 hInv2 h2 tk2 F2 N2
        obtain ⟨ot2, hm2, hR2, hK2⟩ := hInv2
        subst hm2
        refine RS.elim hR2 fun rd tl e t nv _ h1' h2' => ?_
        k_steps
        · refine ⟨ks, _, _, hvs, hrun hok', by simp at hlen ⊢; omega, _, _, ot2, _, _, rfl, by k_mem, ?_, DatAll.push (by walk_at "DatAll") (.tuple (by k_mem) (.cons (.str _ _) (.cons (by walk_at "Dat") .nil))), noLs_app hnl rfl, by walk_at "RS", by walk_at "KeepT", by walk_at "Tb", NoToks.push hNT (by walk_at "Tups") (ws := [.str _ _, .ref _]) (by k_mem)⟩
          rw [Array.size_push]; have := DatAll.length hdone; simp at hlen this; omega
        · refine Hold.mk ?_
          rename Below _ _ _ _ => B9
          intro i9 e9 G9 n9 h9 tk9 z9 F9 K9 T9 R9
          refine leave_next ?_ ?_ B9 F9 R9 (fun h8 R8 => ?_)
          · exact Around.frames_deeper B9.stack
          · rfl
          exact herr _ _ _ _ _ _ ((hbad z9.1).trans (congrArg Sum.inr z9.2.symm)) (by assumption) (KeepT.trans (by walk_at "KeepT") K9) T9 R8
      · exact ⟨ot, funext fun y => bmap_len y, hR', fun q h _ => h⟩
  · intro m3 nw3 hInv3 h3 tk3 F3 N3
    obtain ⟨ks, p', done, hvs, hrun, hlen, its, nD, ot, ol, ok, hm, hD, hsz, hdone, hnl, hR8, hK8, hT8, hNT⟩ := hInv3
    subst hm
    cases hvs
    cases hrun
    refine RS.elim hR8 fun rd tl e t nv _ h1' h2' => ?_
    have hl9 : its.size ≤ sizeLine := by rw [sizeLine_eq]; omega
    k_steps
    exact hret _ _ _ _ (by k_asm) (by k_asm) ⟨_, _, rfl, .tuple (by k_mem) (by walk_at "DatAll"), by walk_at "RS", by walk_at "KeepT", by walk_at "Tb"⟩
  · refine ⟨["fault", "not fault"], p, [], .cons _ _ (.cons _ _ .nil), hsc, by decide, #[], 0, none, none, none, funext fun y => ?_, .head _, by decide, .nil, rfl, RS.sub1 hR, fun q hq _ _ => List.mem_cons_of_mem _ hq, Tb.cons hTb, .inl rfl⟩
    by_cases h1 : y = "turn"
    · subst h1; rfl
    by_cases h2 : y = "length"
    · subst h2; rfl
    by_cases h3 : y = "key"
    · subst h3; rfl
    simp only [brMap, if_neg h1, if_neg h2, if_neg h3]
    rfl
end Mine
theorem off_Br : True := by
  (k_with "off_Br" => skip)
  trivial
end

section
open PySem PySem.W PyProof.Rows PySem.Calls PySem.Spec
set_option maxRecDepth 100000
namespace Mine
theorem reg_Ca_0 : True := by
  (k_with "nt on" => ((fail_if_success walk_at "off_Ca"); (skip)))
  (k_with "got more" => ((fail_if_success walk_at "off_Ca"); (intro hv'; obtain ⟨hp', hR', hK', hT'⟩ := hv'; (have hd' : DatIn _ _ (Op.dat _) := hp'); obtain ⟨a', t1', vs', k', hv', hm', hl'⟩ := Op.head _ hp'; subst hv')))
  (k_with "got more" => ((fail_if_success walk_at "off_Ca"); (intro hv'; obtain ⟨q', ds', hres', hp', hR', hK', hT'⟩ := hv'; cases hres'; obtain ⟨a', hv', hd'⟩ := dat_tup hp'; subst hv')))
  (k_with "DatAll" => ((fail_if_success walk_at "off_Ca"); first | assumption | (refine DatAll.butIt (by assumption) ?_; walk_at "DatAll") | (refine DatAll.mono (fun _ h9 => List.mem_cons_of_mem _ h9) ?_; walk_at "DatAll") | (refine DatAll.keep (by assumption) ?_; walk_at "DatAll") | (refine DatAll.keepT (by assumption) ?_; walk_at "DatAll") | (refine DatAll.butC (by assumption) ?_ (by assumption); walk_at "DatAll") | (refine DatAll.mono (by assumption) ?_; walk_at "DatAll")))
  (k_with "Tups" => ((fail_if_success walk_at "off_Ca"); (intro y9 v9 n9 h9; repeat' (first | exact h9 | refine butIt_at (by assumption) (ty_ne (by decide)) (ty_ne (by decide)) ?_ | refine butC_at (by assumption) tup_nl ?_ | refine List.mem_cons_of_mem _ ?_ | refine keepT_at (by assumption) rfl (fun z => nomatch z) ?_ | refine keep_at (by assumption) rfl ?_ | refine sub_at (by assumption) ?_))))
  trivial
theorem dat_tup {n : Led} {v : Value} {ds : List Dat} (h : DatIn n v (.tuple ds)) : ∃ a, v = .ref a ∧ DatIn n (.ref a) (.tuple ds) := by
  cases h with
  | tuple hm r => exact ⟨_, rfl, .tuple hm r⟩
abbrev Res := (Nat × List Dat) ⊕ Nat
def endAt (tds : Tds) (q : Nat) : Nat := if tokIs tds q "word" "END-CALL" = true then q + 1 else q
def CallPost (r : Addr) (tds : Tds) (news : Led) (o : Op) (ra rb : Res) (v : Value) (news' : Led) : Prop :=
  ∃ q2 ds q3 bs, ra = .inl (q2, ds) ∧ rb = .inl (q3, bs) ∧ OpPost r tds news (endAt tds q3) (.tuple [.str "call", o.dat, .tuple ds, .tuple bs]) v news'
def CallBad (ra rb : Res) (i : Nat) : Prop := ra = .inr i ∨ ∃ q2 ds, ra = .inl (q2, ds) ∧ rb = .inr i
theorem reg_Ca_1 : True := by
  (k_with "does" => ((fail_if_success walk_at "off_Ca"); first | with_reducible exact need_does _ _ _ _ _ _ _ (by walk_at "RS") (by first | assumption | exact ⟨by decide +kernel, by decide⟩) (by assumption)))
  (k_with "does" => ((fail_if_success walk_at "off_Ca"); first | with_reducible exact op_at _ _ _ _ _ (by walk_at "RS") (by assumption) _ (by assumption) _ (by assumption) (by assumption) (by walk_at "Tb")))
  (k_with "does" => first | with_reducible exact skip_does _ _ _ _ _ _ _ (by walk_at "RS") (by first | assumption | exact ⟨by decide +kernel, by decide⟩))
  (k_with "doesR" => ((fail_if_success walk_at "off_Ca"); first | with_reducible exact branches_does _ _ _ _ _ (by walk_at "RS") _ _ _ _ (by k_dflt k_mem) (by assumption) (by walk_at "Tb") _ (by first | assumption | exact hbr _ _ rfl)))
  (k_with "doesR" => ((fail_if_success walk_at "off_Ca"); first | with_reducible exact hargs rfl _ (by walk_at "RS") (by walk_at "Tb")))
  trivial
set_option maxHeartbeats 8000000 in
theorem call_none (w : World) (r : Addr) (news : Led) (tds : Tds) (hR : RS news r tds 0) (hlen : Short tds) (hpos : 0 < tds.length) (hTb : Tb news) (o : Op) (hc : tokIs tds 0 "word" "CALL" = true) (hS : Seg tds 1 o.toks) (q1 : Nat) (hq1 : 1 + o.toks.length = q1) (hN : NextOk tds q1)
    (hU : tokIs tds q1 "word" "USING" = false) (rb : Res) (hbr : ∀ q2 ds, (.inl (q1, []) : Res) = .inl (q2, ds) → BrRun tds ["fault", "not fault"] q2 [] rb) :
    DoesR w 300 [.ref r, .ref 575] 400 4900 news (CallPost r tds news o (.inl (q1, []) : Res) rb) (CallBad (.inl (q1, []) : Res) rb) := by
  have hbr := hbr _ _ rfl
  refine RS.elim hR fun rd tl e t nv n h1' h2' => ?_
  unfold DoesR
  k_fill
  intro _ dp un gd cn cs a ccd cl outer A₀ base h₀ L m mg mb mean s Q E B F X N T hk hd hu hret herr
  have hb : Binds w ob300 [.ref r, .ref 575] [("reader", .ref r), ("read_body", .ref 575)] := .plain rfl
  refine wpAny_call ?_
  k_dflt ktr_enter
  k_steps
  · refine hret _ _ _ _ (by k_asm) (by k_asm) ⟨_, _, _, _, rfl, rfl, ?_⟩
    have hx : tokIs tds q' "word" "END-CALL" = true := by assumption
    rw [endAt, if_pos hx]
    exact ⟨.tuple (by k_mem) (.cons (.str _ _) (.cons (by walk_at "Dat") (.cons (by walk_at "Dat") (.cons (by walk_at "Dat") .nil)))), by walk_at "RS", by walk_at "KeepT", by walk_at "Tb"⟩
  · refine hret _ _ _ _ (by k_asm) (by k_asm) ⟨_, _, _, _, rfl, rfl, ?_⟩
    have hx : tokIs tds q' "word" "END-CALL" = false := by assumption
    rw [endAt, hx, if_neg Bool.false_ne_true]
    exact ⟨.tuple (by k_mem) (.cons (.str _ _) (.cons (by walk_at "Dat") (.cons (by walk_at "Dat") (.cons (by walk_at "Dat") .nil)))), by walk_at "RS", by walk_at "KeepT", by walk_at "Tb"⟩
  · refine Hold.mk ?_
    rename Below _ _ _ _ => B9
    intro i9 e9 G9 n9 h9 tk9 z9 F9 K9 T9 R9
    refine leave_next ?_ ?_ B9 F9 R9 (fun h8 R8 => ?_)
    · exact Around.frames_deeper B9.stack
    · rfl
    exact herr _ _ _ _ _ _ (.inr ⟨_, _, rfl, z9⟩) (by assumption) (KeepT.trans (by walk_at "KeepT") K9) T9 R8
set_option maxHeartbeats 8000000 in
theorem call_using (w : World) (r : Addr) (news : Led) (tds : Tds) (hR : RS news r tds 0) (hlen : Short tds) (hpos : 0 < tds.length) (hTb : Tb news) (o : Op) (hc : tokIs tds 0 "word" "CALL" = true) (hS : Seg tds 1 o.toks) (q1 : Nat) (hq1 : 1 + o.toks.length = q1) (hN : NextOk tds q1)
    (hU : tokIs tds q1 "word" "USING" = true) (ra : Res) (hargs : true = true → ∀ news', RS news' r tds (q1 + 1) → Tb news' → DoesR w 293 [.ref r] 360 4400 news' (fun v n' => ∃ q ds, ra = .inl (q, ds) ∧ OpPost r tds news' q (.tuple ds) v n') (fun i => ra = .inr i)) (rb : Res) (hbr : ∀ q2 ds, ra = .inl (q2, ds) → BrRun tds ["fault", "not fault"] q2 [] rb) :
    DoesR w 300 [.ref r, .ref 575] 400 4900 news (CallPost r tds news o ra rb) (CallBad ra rb) := by
  refine RS.elim hR fun rd tl e t nv n h1' h2' => ?_
  unfold DoesR
  k_fill
  intro _ dp un gd cn cs a ccd cl outer A₀ base h₀ L m mg mb mean s Q E B F X N T hk hd hu hret herr
  have hb : Binds w ob300 [.ref r, .ref 575] [("reader", .ref r), ("read_body", .ref 575)] := .plain rfl
  refine wpAny_call ?_
  k_dflt ktr_enter
  k_steps
  · refine hret _ _ _ _ (by k_asm) (by k_asm) ⟨_, _, _, _, rfl, rfl, ?_⟩
    have hx : tokIs tds q' "word" "END-CALL" = true := by assumption
    rw [endAt, if_pos hx]
    exact ⟨.tuple (by k_mem) (.cons (.str _ _) (.cons (by walk_at "Dat") (.cons (by walk_at "Dat") (.cons (by walk_at "Dat") .nil)))), by walk_at "RS", by walk_at "KeepT", by walk_at "Tb"⟩
  · refine hret _ _ _ _ (by k_asm) (by k_asm) ⟨_, _, _, _, rfl, rfl, ?_⟩
    have hx : tokIs tds q' "word" "END-CALL" = false := by assumption
    rw [endAt, hx, if_neg Bool.false_ne_true]
    exact ⟨.tuple (by k_mem) (.cons (.str _ _) (.cons (by walk_at "Dat") (.cons (by walk_at "Dat") (.cons (by walk_at "Dat") .nil)))), by walk_at "RS", by walk_at "KeepT", by walk_at "Tb"⟩
  · refine Hold.mk ?_
    rename Below _ _ _ _ => B9
    intro i9 e9 G9 n9 h9 tk9 z9 F9 K9 T9 R9
    refine leave_next ?_ ?_ B9 F9 R9 (fun h8 R8 => ?_)
    · exact Around.frames_deeper B9.stack
    · rfl
    exact herr _ _ _ _ _ _ (.inr ⟨_, _, rfl, z9⟩) (by assumption) (KeepT.trans (by walk_at "KeepT") K9) T9 R8
  · refine Hold.mk ?_
    rename Below _ _ _ _ => B9
    intro i9 e9 G9 n9 h9 tk9 z9 F9 K9 T9 R9
    refine leave_next ?_ ?_ B9 F9 R9 (fun h8 R8 => ?_)
    · exact Around.frames_deeper B9.stack
    · rfl
    exact herr _ _ _ _ _ _ (.inl z9) (by assumption) (KeepT.trans (by walk_at "KeepT") K9) T9 R8
end Mine
theorem off_Ca : True := by
  (k_with "off_Ca" => skip)
  trivial
end

section
open PySem PySem.W PyProof.Rows PySem.Calls PySem.Spec
set_option maxRecDepth 100000
namespace Mine
theorem reg_Tn_0 : True := by
  (k_with "nt on" => ((fail_if_success walk_at "off_Tn"); (skip)))
  (k_with "k_mem" => first | ((show _ ∈ _); ktr_member) | exact List.Mem.head _ | (refine' List.mem_cons_of_mem _ ?_; k_mem))
  (k_with "k_mem" => first | ((show _ ∈ _); ktr_member) | exact List.Mem.head _ | (refine' List.mem_cons_of_mem _ ?_; k_mem) | (refine sub_at (by assumption) ?_; k_mem) | (refine keep_at (by assumption) (by first | rfl | decide +kernel) ?_; k_mem) | (refine butC_at (by assumption) tup_nl ?_; k_mem))
  (k_with "call ref" => (k_here; (with_reducible show wpAny _ _ (call (Value.ref _) _) _ _ _); (try walk_at "fold"); k_dflt (refine' Does.use0 ?H ?k1 ?k2 ?k3 ?k4 ?k5 ?k6 ?kd ?ku ?_; (case k1 => k_asm); (case k2 => k_asm); (case k3 => k_asm); (case k4 => k_asm); (case k5 => k_asm); (case H => ((try dsimp only [List.cons_append, List.nil_append]); walk_at "does")); (case k6 => first | rfl | assumption); (case kd => walk_at "room"); (case ku => walk_at "room"); k_whole); k_dflt (walk_at "got")))
  trivial
set_option maxHeartbeats 8000000 in
theorem token_does (w : World) (news : Led) (kd wd : PySem.Str) (tk tw : Nat) (ta : Addr) (i : Nat) (t1 t2 tn : Nat) (hta : (ta, tupO [.int 3 t1, .int ((i : Int) + 1) t2] tn) ∈ news) :
    Does w 326 [.str kd tk, .str wd tw, .ref ta] 40 300 news (fun v n' => ∃ x, v = .ref x ∧ TokAt n' x i (kd, wd) ∧ ∀ q ∈ news, q ∈ n') (fun _ _ => False) := by
  unfold Does
  k_fill
  intro _ dp un gd cn cs a ccd cl outer A₀ base h₀ L m mg mb mean s Q E B F X N T hk hd hu hret herr
  refine' call_cls ?k1 ?k2 ?k3 ?k4 ?k5 ?k6 ?_
  (case k1 => k_asm); (case k2 => k_asm); (case k3 => k_asm); (case k4 => k_is); (case k5 => k_is); (case k6 => k_is)
  k_whole
  intro x' d' h' F' N' l1 l2
  (try k_lt l1); (try k_lt2 l2); (try k_sweep)
  have hb : Binds w ob316 [.ref x', .str kd tk, .str wd tw, .ref ta] [("self", .ref x'), ("kind", .str kd tk), ("worth", .str wd tw), ("at", .ref ta), ("is_in_a", .bool false)] := .dflt 309 rfl rfl rfl rfl rfl
  k_dflt ktr_enter
  k_steps
  exact hret _ _ _ _ (by k_asm) (by k_asm) ⟨_, rfl, ⟨_, _, _, _, _, (_, _, _, _), (_, _, _, _, _, _), _, .head _, .tail _ (.head _), .tail _ (.tail _ hta)⟩, fun q hq => .tail _ (.tail _ hq)⟩
end Mine
theorem off_Tn : True := by
  (k_with "off_Tn" => skip)
  trivial
end

section
open PySem PySem.W PyProof.Rows PySem.Calls PySem.Spec
set_option maxRecDepth 100000
namespace Mine
theorem reg_Tk_0 : True := by
  (k_with "nt on" => ((fail_if_success walk_at "off_Tk"); (skip)))
  (k_with "k_mem" => first | ((show _ ∈ _); ktr_member) | exact List.Mem.head _ | (refine' List.mem_cons_of_mem _ ?_; k_mem) | (refine sub_at (by assumption) ?_; k_mem) | (refine keep_at (by assumption) (by first | rfl | decide +kernel) ?_; k_mem) | (refine keepT_at (by assumption) rfl (fun z => nomatch z) ?_; k_mem) | (refine tab_at (by assumption) (fun z => nomatch z) ?_; k_mem) | (refine butC_at (by assumption) tup_nl ?_; k_mem))
  (k_with "k_mem" => first | ((show _ ∈ _); ktr_member) | exact List.Mem.head _ | (refine' List.mem_cons_of_mem _ ?_; k_mem) | (refine sub_at (by assumption) ?_; k_mem) | (refine keep_at (by assumption) (by first | rfl | assumption | decide +kernel) ?_; k_mem) | (refine keepT_at (by assumption) (by first | rfl | assumption) (by first | exact (fun z => nomatch z) | exact it_nn (by assumption)) ?_; k_mem) | (refine tab_at (by assumption) (fun z => nomatch z) ?_; k_mem) | (refine butC_at (by assumption) (by first | exact tup_nl | exact it_nl (by assumption) | exact ty_ne (by decide) | exact (fun z => nomatch z)) ?_; k_mem) | (refine butIt_at (by assumption) (by first | exact ty_ne (by decide) | exact (fun z => nomatch z)) (by first | exact ty_ne (by decide) | exact it_nr (by assumption) | exact (fun z => nomatch z)) ?_; k_mem) | (refine but_at (by assumption) ?_ (by first | exact (ne_lt (by assumption) (by assumption)) | exact Ne.symm (Nat.ne_of_lt (by assumption))); k_mem))
  (k_with "pyIter ref" => ((fail_if_success walk_at "off_Tk"); ((with_reducible show wpAny _ _ (pyIter (Value.ref _)) (fun it s₂ => LoopAtV _ _ _ _ _ _ _ _ _ it s₂) _ _); k_here; (rename IsRange _ _ _ _ _ _ _ _ => rgX); (rename Fr _ _ _ _ => lF'); (rename News _ _ _ _ => lN'); (with_unfolding_all refine iter_rangeHold (by rfl) rgX (by first | rfl | assumption) (by first | assumption | omega) lF' lN' ?_))))
  (k_with "UnrEnd" => ((fail_if_success walk_at "off_Tk"); ((rename News _ _ _ _ => lN'); k_dflt (refine unrEnd_g (by assumption) lN' (by k_mem) (.inr rfl) ?_); intro n2' hb2' hi2')))
  (k_with "DatAll" => ((fail_if_success walk_at "off_Tk"); first | assumption | (refine DatAll.butIt (by assumption) ?_; walk_at "DatAll") | (refine DatAll.mono (fun _ h9 => List.mem_cons_of_mem _ h9) ?_; walk_at "DatAll") | (refine DatAll.keep (by assumption) ?_; walk_at "DatAll") | (refine DatAll.keepT (by assumption) ?_; walk_at "DatAll") | (refine DatAll.butC (by assumption) ?_ (by assumption); walk_at "DatAll") | (refine DatAll.mono (by assumption) ?_; walk_at "DatAll")))
  (k_with "Tups" => ((fail_if_success walk_at "off_Tk"); (intro y9 v9 n9 h9; repeat' (first | exact h9 | refine butIt_at (by assumption) (ty_ne (by decide)) (ty_ne (by decide)) ?_ | refine butC_at (by assumption) tup_nl ?_ | refine List.mem_cons_of_mem _ ?_ | refine keepT_at (by assumption) rfl (fun z => nomatch z) ?_ | refine keep_at (by assumption) rfl ?_ | refine sub_at (by assumption) ?_))))
  (k_with "call builtin:len" => (k_here; (with_reducible show wpAny _ _ (call (Value.builtin "len") [Value.ref _]) _ _ _); k_dflt (refine' len_led ?k1 ?k2 ?k3 ?_; (case k1 => k_asm); (case k2 => k_mem); (case k3 => assumption); k_whole)))
  trivial
def isFig (c : PySem.Str) : Bool := !(Builtin.Str.occurrences "0123456789" c 0 ("0123456789" : PySem.Str).length 1).isEmpty
def sigs : List PySem.Str := [".", "(", ")", "=", ">", "<", ">=", "+"]
def isSig (x : PySem.Str) : Bool := sigs.any (· == x)
def tokOf (x : PySem.Str) : PySem.Str × PySem.Str := if isSig x then ("sign", x) else if isFig (Txt.item x 0) then ("number", x) else if Txt.item x 0 == "!" then ("literal", Txt.slice x (some 1) none) else ("word", x)
def Voc (x : PySem.Str) : Prop := 0 < x.length ∧ x.length ≤ 100 ∧ (isSig x = true → isFig (Txt.item x 0) = false ∧ (Txt.item x 0 == ("!" : PySem.Str)) = false)
section
variable {prog : Program} {w : World} {A : Around} {E : Value → Shared → Prop} {s : Shared} {h₀ : Heap} {L : Addr} {news : Led} {Q : Value → Shared → Prop}
theorem witem_led {l : Addr} {vs : List Value} {ws : List PySem.Str} {n i : Nat} {x : PySem.Str} {value slice : PySem.Expr} {k : Int} {u : Tok} (N : News h₀ L s.heap news) (hl : (l, W.listOf vs.toArray n) ∈ news) (hvs : StrsAre vs ws) (hx : ws[i]? = some x) (hz : vs.length ≤ 1000)
    (hk : k = (i : Int)) (h : ∀ t, Q (.str x t) s)
    (hs : subscripted slice false (.ref l) (.int k u) = operate [.ref l, .int k u] (getItem (.ref l) (.int k u)) := by with_unfolding_all rfl) :
    wpAny (model prog w) A (subscriptTail value slice (.ref l) (.int k u)) Q E s := by
  subst hk
  have hlt : i < ws.length := (List.getElem?_eq_some_iff.mp hx).1
  have := hvs.length
  refine item_led N hl hz (by omega) (by omega) (fun v hv => ?_) hs
  obtain ⟨t, ht⟩ := hvs.at hx
  have e : ((i : Int)).toNat = i := by omega
  rw [e, ht] at hv
  obtain rfl := Option.some.inj hv
  exact h t
theorem str0 {x : PySem.Str} {t u : Tok} {value slice : PySem.Expr} (h0 : 0 < x.length) (h : ∀ t, Q (.str (Txt.item x 0) t) { s with toks := s.toks + 1 })
    (hs : subscripted slice false (.str x t) (.int 0 u) = operate [.str x t, .int 0 u] (getItem (.str x t) (.int 0 u)) := by with_unfolding_all rfl)
    (ht : ∀ r, letTemporaryGo value (.str x t) r = pure () := by intro _; with_unfolding_all rfl) :
    wpAny (model prog w) A (subscriptTail value slice (.str x t) (.int 0 u)) Q E s :=
  item_str (by decide) (by omega) (by omega) (fun _ => h _) hs ht
theorem in_fig {c : PySem.Str} {b : Bool} {t u : Tok} (hb : isFig c = b) (h : Q (.bool b) s) : wpAny (model prog w) A (compareOp .In (.str c u) (.str "0123456789" t)) Q E s := by
  subst hb
  exact in_str h
theorem in_sig {a : Addr} {vs : List Value} {n : Nat} {x : PySem.Str} {b : Bool} {t : Tok} (N : News h₀ L s.heap news) (hm : (a, tupO vs n) ∈ news) (hS : StrsAre vs sigs) (hb : isSig x = b)
    (h : Q (.bool b) s) : wpAny (model prog w) A (compareOp .In (.str x t) (.ref a)) Q E s := by
  refine SeqAt.in_tupleAt (isStrOf x) ⟨_, (N _ hm).1, rfl, _, rfl⟩ (fun y hy => (eq_isStrOf x t hS y (by simpa using hy)).at _ _) ?_
  rw [List.any_toArray, any_isStrOf x hS]
  subst hb
  exact h
end
theorem TokAt.sub2 {a b : Led} {x : Addr} {i : Nat} {td : PySem.Str × PySem.Str} (h : TokAt a x i td) (k : ∀ q ∈ a, q ∈ b) : TokAt b x i td := by
  obtain ⟨dx, ta, t1, t2, tn, e, t, n, x1, x2, x3⟩ := h
  exact ⟨dx, ta, t1, t2, tn, e, t, n, k _ x1, k _ x2, k _ x3⟩
theorem TokAt.butC {a b : Led} {x : Addr} {i : Nat} {td : PySem.Str × PySem.Str} (h : TokAt a x i td) (k : ButC a b) : TokAt b x i td := by
  obtain ⟨dx, ta, t1, t2, tn, e, t, n, x1, x2, x3⟩ := h
  exact ⟨dx, ta, t1, t2, tn, e, t, n, k _ x1 (fun z => nomatch z), k _ x2 (ty_ne (by decide)), k _ x3 (ty_ne (by decide))⟩
theorem tk_next {nw n1 n2 n3 : Led} {ws : List PySem.Str} {toks : List Value} {i : Nat} {x : PySem.Str} {x' : Addr} (hx : ws[i]? = some x) (htk : ∀ (j : Nat) x, ws[j]? = some x → j < i → ∃ a, toks[j]? = some (.ref a) ∧ TokAt nw a j (tokOf x)) (hlen : toks.length = i) (hta : TokAt n1 x' i (tokOf x))
    (u1 : ∀ q ∈ nw, q ∈ n1) (c1 : ButC n1 n2) (c2 : ButIt n2 n3) : ∀ (j : Nat) x, ws[j]? = some x → j < i + 1 → ∃ a, (toks ++ [.ref x'])[j]? = some (.ref a) ∧ TokAt n3 a j (tokOf x) := by
  intro j y hy hj
  by_cases h : j < i
  · obtain ⟨a, ha, hT⟩ := htk j y hy h
    exact ⟨a, by rw [List.getElem?_append_left (by omega)]; exact ha, ((hT.sub2 u1).butC c1).butIt c2⟩
  · obtain rfl : j = i := by omega
    obtain rfl : y = x := Option.some.inj (hy.symm.trans hx)
    exact ⟨x', by rw [List.getElem?_append_right (by omega), hlen, Nat.sub_self]; rfl, (hta.butC c1).butIt c2⟩
abbrev tkMap (wl D : Addr) (oa ok : Option Value) : PySem.Str → Option Value := fun y => if y = "kind" then ok else if y = "at" then oa else if y = "found" then some (.ref D) else ([("words", .ref wl)] : List (PySem.Str × Value)).reverse.lookup y
theorem tmap_at {wl D : Addr} {oa ok v : Option Value} (y : PySem.Str) : (if y = ("at" : PySem.Str) then v else tkMap wl D oa ok y) = tkMap wl D v ok y := by
  by_cases h : y = ("at" : PySem.Str)
  · subst h; rfl
  · simp only [tkMap, if_neg h]
theorem tmap_kind {wl D : Addr} {oa ok v : Option Value} (y : PySem.Str) : (if y = ("kind" : PySem.Str) then v else tkMap wl D oa ok y) = tkMap wl D oa v y := by
  by_cases h : y = ("kind" : PySem.Str)
  · subst h; rfl
  · simp only [tkMap, if_neg h]
theorem tmap_kind2 {wl D : Addr} {oa ok u v : Option Value} (y : PySem.Str) : (if y = ("kind" : PySem.Str) then v else if y = ("kind" : PySem.Str) then u else tkMap wl D oa ok y) = tkMap wl D oa v y := by
  by_cases h : y = ("kind" : PySem.Str)
  · subst h; rfl
  · simp only [tkMap, if_neg h]
inductive TkInv (wl D : Addr) (news : Led) (ws : List PySem.Str) (i : Nat) (m : PySem.Str → Option Value) (nw : Led) : Prop
  | mk (toks : List Value) (n : Nat) (oa ok : Option Value) : (m = tkMap wl D oa ok) → ((D, W.listOf toks.toArray n) ∈ nw) → (toks.length = i) → ((∀ (j : Nat) x, ws[j]? = some x → j < i → ∃ a, toks[j]? = some (.ref a) ∧ TokAt nw a j (tokOf x))) → ((∀ q ∈ news, q ∈ nw)) → TkInv wl D news ws i m nw
inductive ToksPost (news : Led) (ws : List PySem.Str) (v : Value) (n' : Led) : Prop
  | mk (D : Addr) (toks : List Value) (kk : Nat) : (v = .ref D) → ((D, W.listOf toks.toArray kk) ∈ n') → (toks.length = ws.length) → ((∀ (i : Nat) x, ws[i]? = some x → ∃ a, toks[i]? = some (.ref a) ∧ TokAt n' a i (tokOf x))) → ((∀ q ∈ news, q ∈ n')) → ToksPost news ws v n'
theorem reg_Tk_1 : True := by
  (k_with "subscriptTail Name Name ref int" => ((fail_if_success walk_at "off_Tk"); (k_here; (with_reducible show wpAny _ _ (subscriptTail _ _ (Value.ref _) (Value.int _ _)) _ _ _); k_dflt (refine' witem_led ?k1 ?k2 ?k3 ?k4 ?k5 ?k6 ?_ ?k7; (case k1 => k_asm); (case k2 => k_mem); (case k3 => assumption); (case k4 => assumption); (case k5 => assumption); (case k6 => omega); (case k7 => with_unfolding_all rfl); k_whole); intro t8; (try dsimp only))))
  (k_with "subscriptTail Subscript Name Name Constant str int" => ((fail_if_success walk_at "off_Tk"); (k_here; (with_reducible show wpAny _ _ (subscriptTail _ _ (Value.str _ _) (Value.int _ _)) _ _ _); k_dflt (refine' str0 ?k1 ?_ ?k2 ?k3; (case k1 => assumption); (case k2 => with_unfolding_all rfl); (case k3 => (intro _; with_unfolding_all rfl)); k_whole); intro t8; (try dsimp only))))
  (k_with "compareOp In" => ((fail_if_success walk_at "off_Tk"); (k_here; k_dflt (refine' in_fig ?k1 ?_; (case k1 => assumption); k_whole); (try dsimp only))))
  (k_with "compareOp In str ref" => ((fail_if_success walk_at "off_Tk"); (k_here; k_dflt (refine' in_sig ?k1 ?k2 ?k3 ?k4 ?_; (case k1 => k_asm); (case k2 => k_mem); (case k3 => (repeat constructor)); (case k4 => assumption); k_whole); (try dsimp only))))
  (k_with "compareOp In str str" => ((fail_if_success walk_at "off_Tk"); (k_here; k_dflt (refine' in_fig ?k1 ?_; (case k1 => assumption); k_whole); (try dsimp only))))
  (k_with "ite" => ((fail_if_success walk_at "off_Tk"); (k_here; first | refine ite_yes (by assumption) ?_ | refine ite_no (by assumption) ?_; (try dsimp only))))
  (k_with "got more" => ((fail_if_success walk_at "off_Tk"); (intro hv'; obtain ⟨x', hv', hta', hs'⟩ := hv'; subst hv')))
  (k_with "does" => ((fail_if_success walk_at "off_Tk"); first | with_reducible exact token_does _ _ _ _ _ _ _ _ _ _ _ (by k_dflt k_mem)))
  trivial
set_option maxHeartbeats 8000000 in
theorem tokens_does (w : World) (news : Led) (wl : Addr) (vs : List Value) (ws : List PySem.Str) (k : Nat) (hwl : (wl, W.listOf vs.toArray k) ∈ news) (hvs : StrsAre vs ws) (hvoc : ∀ x ∈ ws, Voc x) (hsz : vs.length ≤ 1000) (hsz2 : vs.length < 1000) :
    Does w 568 [.ref wl] 60 700 news (ToksPost news ws) (fun _ _ => False) := by
  unfold Does
  k_fill
  intro _ dp un gd cn cs a ccd cl outer A₀ base h₀ L m mg mb mean s Q E B F X N T hk hd hu hret herr
  have hb : Binds w ob568 [.ref wl] [("words", .ref wl)] := .plain rfl
  refine wpAny_call ?_
  k_dflt ktr_enter
  k_steps
  have l' := 0; have l1 := 0; rename_i D9 _ l19 _ _ _ _ _ _ _ _
  refine Hold.mk (fun I hI => ?_)
  refine rangeRest_ind (Inv := TkInv wl D9 news ws) ?_ ?_ _ _ _ _ (Nat.zero_add _) ?_
  · intro i m₁ nw hi hInv t9 h9 tk9 F9 N9
    obtain ⟨toks, nD, oa, ok, hm, hD, hlen, htk, hsub⟩ := hInv
    subst hm
    replace F9 := Fr.congr F9 tmap_at
    have hle := hvs.length
    obtain ⟨x, hx⟩ : ∃ x, ws[i]? = some x := ⟨_, List.getElem?_eq_getElem (by omega)⟩
    obtain ⟨hx0, hx1, hxs⟩ := hvoc x (List.mem_of_getElem? hx)
    have hl9 : toks.length ≤ sizeLine := by rw [sizeLine_eq]; omega
    cases q3 : isSig x with
    | true =>
      obtain ⟨q1, q2⟩ := hxs q3
      k_steps
      have eT : tokOf x = (("sign" : PySem.Str), x) := by unfold tokOf; rw [q3]; rfl
      exact ⟨toks ++ [.ref x'], nD + 1, _, _, funext fun y => tmap_kind2 y, butIt_at hi2' (ty_ne (by decide)) (ty_ne (by decide)) (by rw [← List.push_toArray]; exact hm'), by simp; omega, tk_next hx htk hlen (eT ▸ hta') (fun q hq => hs' q (.tail _ (.tail _ (.tail _ hq)))) hc' hi2', fun q hq => hb2' q (hb' q (hs' q (.tail _ (.tail _ (.tail _ (hsub q hq))))) (Nat.ne_of_lt (l19 q hq))) (Nat.ne_of_lt (hI q (.tail _ hq)))⟩
    | false =>
      cases q1 : isFig (Txt.item x 0) with
      | true =>
        k_steps
        have eT : tokOf x = (("number" : PySem.Str), x) := by unfold tokOf; rw [q3, q1]; rfl
        exact ⟨toks ++ [.ref x'], nD + 1, _, _, funext fun y => tmap_kind2 y, butIt_at hi2' (ty_ne (by decide)) (ty_ne (by decide)) (by rw [← List.push_toArray]; exact hm'), by simp; omega, tk_next hx htk hlen (eT ▸ hta') (fun q hq => hs' q (.tail _ (.tail _ (.tail _ hq)))) hc' hi2', fun q hq => hb2' q (hb' q (hs' q (.tail _ (.tail _ (.tail _ (hsub q hq))))) (Nat.ne_of_lt (l19 q hq))) (Nat.ne_of_lt (hI q (.tail _ hq)))⟩
      | false =>
        cases q2 : Txt.item x 0 == ("!" : PySem.Str) with
        | true =>
          k_steps
          have eT : tokOf x = (("literal" : PySem.Str), Txt.slice x (some 1) none) := by unfold tokOf; rw [q3, q1, q2]; rfl
          exact ⟨toks ++ [.ref x'], nD + 1, _, _, funext fun y => tmap_kind2 y, butIt_at hi2' (ty_ne (by decide)) (ty_ne (by decide)) (by rw [← List.push_toArray]; exact hm'), by simp; omega, tk_next hx htk hlen (eT ▸ hta') (fun q hq => hs' q (.tail _ (.tail _ (.tail _ hq)))) hc' hi2', fun q hq => hb2' q (hb' q (hs' q (.tail _ (.tail _ (.tail _ (hsub q hq))))) (Nat.ne_of_lt (l19 q hq))) (Nat.ne_of_lt (hI q (.tail _ hq)))⟩
        | false =>
          k_steps
          have eT : tokOf x = (("word" : PySem.Str), x) := by unfold tokOf; rw [q3, q1, q2]; rfl
          exact ⟨toks ++ [.ref x'], nD + 1, _, _, funext fun y => tmap_kind2 y, butIt_at hi2' (ty_ne (by decide)) (ty_ne (by decide)) (by rw [← List.push_toArray]; exact hm'), by simp; omega, tk_next hx htk hlen (eT ▸ hta') (fun q hq => hs' q (.tail _ (.tail _ (.tail _ hq)))) hc' hi2', fun q hq => hb2' q (hb' q (hs' q (.tail _ (.tail _ (.tail _ (hsub q hq))))) (Nat.ne_of_lt (l19 q hq))) (Nat.ne_of_lt (hI q (.tail _ hq)))⟩
  · intro m2 nw2 hInv2 h2 tk2 F2 N2
    obtain ⟨toks, nD, oa, ok, hm, hD, hlen, htk, hsub⟩ := hInv2
    subst hm
    k_steps
    exact hret _ _ _ _ (by k_asm) (by k_asm) ⟨D9, toks, nD, rfl, hD, by rw [hlen]; exact hvs.length, fun i x hx => htk i x hx (by have := (List.getElem?_eq_some_iff.mp hx).1; rw [hvs.length]; exact this), hsub⟩
  · refine ⟨[], 0, none, none, funext fun y => ?_, .head _, rfl, fun j x _ h => absurd h (Nat.not_lt_zero _), fun q hq => .tail _ hq⟩
    by_cases h1 : y = "kind"
    · subst h1; rfl
    by_cases h2 : y = "at"
    · subst h2; rfl
    simp only [tkMap, if_neg h1, if_neg h2]
    rfl
end Mine
theorem off_Tk : True := by
  (k_with "off_Tk" => skip)
  trivial
end

section
open PySem PySem.W PyProof.Rows
set_option maxRecDepth 100000
namespace Mine
section
variable {prog : Program} {w : World} {A : Around} {E : Value → Shared → Prop} {s : Shared} {K : Frag} {C x : Addr} {ox : Obj} {od : Option Obj} {name : PySem.Str} {expr : Bool} {pl : Sem Bool}
theorem canon_bexc : (Manifest.canonical "BaseException.__getattribute__" != "object.__getattribute__") = false := by decide +kernel
theorem method_exc {f : Addr} {Q : Value × List Value → Shared → Prop} (X : K.In s.heap) (I : InstAt s.heap x ox C od) (hga : findIn K (.ref C) "__getattribute__" = some (some (.builtin "BaseException.__getattribute__"))) (hk : findIn K (.ref C) "__getattr__" = some none)
    (hf : findIn K (.ref C) name = some (some (.ref f))) (ht : typeIn K (.ref f) = some (.type "function")) (hs : shadowIn od name = some false) (h : Q (.ref f, [.ref x]) s) :
    wpAny (model prog w) A (getMethod (.ref x) name pl) Q E s := by
  have hd := I.dict
  unfold getMethod specialOf
  refine wpAny_bind (wpAny_bind (I.type.here ((looks_findIn X hga).here ?_)))
  dsimp only
  rw [canon_bexc, if_neg Bool.false_ne_true]
  refine wpAny_bind (wpAny_bind (I.type.here ((looks_findIn X hk).here ?_)))
  refine wpAny_bind (wpAny_bind (I.type.here ((looks_findIn X hf).here (wpAny_bind ((looks_typeIn X ht).here ?_)))))
  rw [if_neg (by decide +kernel)]
  refine wpAny_bind (wpAny_loadPart I.at_ ?_)
  revert hd
  cases ox.dict with
  | none => exact fun _ => wpAny_bind (wpAny_rule (wpAny_pure h))
  | some dx =>
    cases od with
    | none => exact fun hd => hd.elim
    | some o =>
      intro hd
      obtain ⟨r, a, b⟩ := Option.map_eq_some_iff.mp hs
      refine wpAny_bind (wpAny_bind (wpAny_loadPart hd ?_))
      rw [nsLook_of a]
      refine wpAny_pure ?_
      rw [b]
      exact wpAny_bind (wpAny_rule (wpAny_pure h))
theorem get_exc {v : Value} {Q : Value → Shared → Prop} (X : K.In s.heap) (I : InstAt s.heap x ox C od) (hga : findIn K (.ref C) "__getattribute__" = some (some (.builtin "BaseException.__getattribute__"))) (hk : findIn K (.ref C) "__getattr__" = some none)
    (hm : mroIn K C (.type "BaseException") = some true) (hf : findObj K C od name = some (.value v)) (hv : handedIn v = true) (h : Q v { s with toks := s.toks + 1 }) : wpAny (model prog w) A (getAttr (.ref x) name expr) Q E s := by
  obtain ⟨hp, g, d, t, os⟩ := s
  have L0 := I.type (M := model prog w)
  have L1 := looks_findIn (M := model prog w) X hga
  have L2 := looks_findIn (M := model prog w) X hk
  have L3 := looks_mroIn (M := model prog w) X hm
  have L4 := looks_find (M := model prog w) X I hf
  have f3 := (PySem.F.attr_Exception.ga).bind (.ref x)
  have hx0 : (expr && onTheHeap (Value.builtin "BaseException.__getattribute__")) = false := by cases expr <;> rfl
  have hx2 : (Value.builtin "BaseException.__getattribute__" == Value.builtin "object.__getattribute__") = false := by decide +kernel
  unfold getAttr getAttrBy
  refine wpAny_bind (wpAny_mkText (wpAny_holding (wpAny_bind (L0.at (wpAny_bind (L1.at ?_))))))
  dsimp only
  rw [hx2, Bool.and_false, if_neg Bool.false_ne_true]
  unfold getAttrByItsOwn hookBefore
  have hon : onTheHeap (Value.ref C) = true := rfl
  rw [hon, if_pos rfl]
  refine wpAny_bind (L2.at ?_)
  repeat (any_goals (first | assumption | with_reducible refine L0.at ?_ | wp_step))
  have hkind : builtinKind "BaseException.__getattribute__" = some .slot := by decide +kernel
  have hsplit : splitId "BaseException.__getattribute__" = some ("BaseException", "__getattribute__") := by decide +kernel
  have hargs := PySem.F.args_bexc_ga (.ref x) (.str name t)
  refine codeAny_call_builtin (PySem.F.attr_Exception.ga).plain PySem.F.entry_bexc_ga ?_
  simp only [checkBuiltinCall, hkind, hsplit, List.cons_append, List.nil_append]
  refine wpAny_bind ?_
  unfold isInstance
  repeat (any_goals (first | assumption | with_reducible refine L0.at ?_ | with_reducible refine L3.at ?_ | with_reducible refine L4.at ?_ | wp_step))
  show wpAny _ _ (handedOut v) _ _ _
  rw [handedOut_of hv]
  exact wpAny_pure h
end
end Mine
end

section
open PySem PySem.W PyProof.Rows PySem.Calls PySem.Spec
set_option maxRecDepth 100000
namespace Mine
theorem reg_Hr_0 : True := by
  (k_with "nt on" => ((fail_if_success walk_at "off_Hr"); (skip)))
  (k_with "call ref" => (k_here; (with_reducible show wpAny _ _ (call (Value.ref _) _) _ _ _); (try walk_at "fold"); k_dflt (refine' DoesR.use ?H ?k1 ?k2 ?k3 ?k4 ?k5 ?k6 ?kd ?ku ?_ ?_; (case k1 => k_asm); (case k2 => k_asm); (case k3 => k_asm); (case k4 => k_asm); (case k5 => k_asm); (case H => ((try dsimp only [List.cons_append, List.nil_append]); walk_at "doesR")); (case k6 => first | rfl | assumption); (case kd => walk_at "room"); (case ku => walk_at "room"); k_whole); focus (k_dflt (walk_at "got"))))
  (k_with "call ref" => ((fail_if_success walk_at "off_Hr"); (k_here; (try dsimp only [List.nil_append, List.cons_append, List.append_nil]); (show wpAny _ _ (call (Value.ref 94) _) _ _ _); k_dflt (refine wpAny_call ?_); k_dflt (refine' code_def ?k1 ?k2 ?k3 ?k4 ?k5 ?kA ?kF ?kK ?k6 ?k7 ?k8 ?k9 ?kB ?_ ?c2 ?c3 ?c4 ?c5; (case kA => exact rfl); (case kF => exact rfl); (case kK => exact rfl); (case k1 => k_asm); (case k2 => k_asm); (case k3 => k_asm); (case k4 => k_asm); (case k5 => k_asm); (case k6 => k_is); (case k7 => k_is); (case k8 => (show dp + 1 < recursionLimit; omega)); (case k9 => exact hb94 _ (by k_in)); (case c5 => decide); (case kB => exact locs rfl); (case c2 => exact rfl); (case c3 => exact rfl); (case c4 => exact rfl); k_whole; intro g' L' h' FG' F' N' B' X' T'; (try dsimp only); (try walk_at "fold")))))
  (k_with "call builtin:len" => ((fail_if_success walk_at "off_Hr"); (k_here; (with_reducible show wpAny _ _ (call (Value.builtin "len") [Value.ref _]) _ _ _); k_dflt (refine' kun_lenT (items := vs.toArray) (k := (ws.length : Int)) ?k1 ?k2 ?k3 ?_; (case k1 => exact News.isTup (n := k) (by k_asm) (by (show (wa, tupO vs k) ∈ _); k_mem)); (case k2 => (rw [← hvs.length]; simp)); (case k3 => omega); k_whole))))
  (k_with "got more" => ((fail_if_success walk_at "off_Hr"); (intro hv'; obtain ⟨r', hv', hR', hs'⟩ := hv'; subst hv')))
  (k_with "got more" => ((fail_if_success walk_at "off_Hr"); (intro hv'; obtain ⟨D', toks', kk', hv', hm', hl', ht', hs'⟩ := hv'; subst hv'; (have hTk' := ToksPost.toks hl' hwz ht'))))
  (k_with "got more" => ((fail_if_success walk_at "off_Hr"); (intro hv'; obtain ⟨d', q', ho', hp', hR', hK', hT'⟩ := hv'; (have hd' : DatIn _ _ _ := hp'); refine RS.elim hR' fun rd' tl' e'' t'' nv' nn'' h1' h2' => ?_)))
  (k_with "Sub" => (intro q9 hq9; repeat' (first | exact hq9 | refine sub_at (by assumption) ?_ | refine List.mem_cons_of_mem _ ?_)))
  (k_with "getMethod ref" => ((fail_if_success walk_at "off_Hr"); (k_here; (with_reducible show wpAny _ _ (getMethod (Value.ref e9) _ _) _ _ _); k_dflt (refine' method_exc ?k1 ?k3 ?k4 ?k5 ?k6 ?k7 ?k8 ?_; (case k1 => k_in); (case k3 => exact inst_ex (by k_asm) (List.Mem.head _) (.tail _ hdx9)); (case k4 => k_is); (case k5 => k_is); (case k6 => k_is); (case k7 => k_is); (case k8 => exact rfl); k_whole))))
  (k_with "getAttr ref" => ((fail_if_success walk_at "off_Hr"); (k_here; (with_reducible show wpAny _ _ (getAttr (Value.ref e9) _ _) _ _ _); k_dflt (refine' get_exc ?k1 ?k3 ?k4 ?k5 ?k6 ?k7 ?k8 ?_; (case k1 => k_in); (case k3 => exact inst_ex (by k_asm) (List.Mem.head _) (.tail _ hdx9)); (case k4 => k_is); (case k5 => k_is); (case k6 => k_is); (case k7 => exact findObj_own (by k_is) (by k_is) (by k_is) (by exact rfl)); (case k8 => k_handed); k_whole))))
  (k_with "subscriptTail Call Attribute nil nil Constant ref int" => ((fail_if_success walk_at "off_Hr"); (k_here; k_dflt (refine' tup1_led ?k1 ?k2 ?_ ?k6; (case k1 => k_asm); (case k2 => exact List.Mem.head _); (case k6 => with_unfolding_all rfl); k_whole))))
  (k_with "subscriptTail Subscript Call Constant Constant ref int" => ((fail_if_success walk_at "off_Hr"); (k_here; k_dflt (refine' tup1_led ?k1 ?k2 ?_ ?k6; (case k1 => k_asm); (case k2 => exact .tail _ (.tail _ hta9)); (case k6 => with_unfolding_all rfl); k_whole))))
  trivial
def Toks (news : Led) (toks : List Value) (tds : Tds) : Prop := toks.length = tds.length ∧ toks.length ≤ 1000 ∧ ∀ (i : Nat) td, tds[i]? = some td → ∃ x, toks[i]? = some (.ref x) ∧ TokAt news x i td
set_option maxHeartbeats 8000000 in
theorem reader_does (w : World) (news : Led) (tl : Addr) (toks : List Value) (ln : Nat) (tds : Tds) (htl : (tl, W.listOf toks.toArray ln) ∈ news) (ht : Toks news toks tds) :
    Does w 511 [.ref tl] 40 300 news (fun v n' => ∃ r, v = .ref r ∧ RS n' r tds 0 ∧ ∀ q ∈ news, q ∈ n') (fun _ _ => False) := by
  unfold Does
  k_fill
  intro _ dp un gd cn cs a ccd cl outer A₀ base h₀ L m mg mb mean s Q E B F X N T hk hd hu hret herr
  refine' call_cls ?k1 ?k2 ?k3 ?k4 ?k5 ?k6 ?_
  (case k1 => k_asm); (case k2 => k_asm); (case k3 => k_asm); (case k4 => k_is); (case k5 => k_is); (case k6 => k_is)
  k_whole
  intro x' d' h' F' N' l1 l2
  (try k_lt l1); (try k_lt2 l2); (try k_sweep)
  have hb : Binds w ob357 [.ref x', .ref tl] [("self", .ref x'), ("tokens", .ref tl), ("at", .int 0 697)] := .dflt 350 rfl rfl rfl rfl rfl
  k_dflt ktr_enter
  k_steps
  obtain ⟨hl, hz, ht⟩ := ht
  exact hret _ _ _ _ (by k_asm) (by k_asm) ⟨_, rfl, ⟨d', tl, toks, (_, _, _), (_, _, _, _), _, _, ln, .tail _ (.head _), .tail _ (.tail _ (.head _)), .tail _ (.tail _ (.tail _ htl)), hl, hz, fun i td hi => let ⟨x, a, b⟩ := ht i td hi; ⟨x, a, b.sub2 fun q hq => .tail _ (.tail _ (.tail _ hq))⟩⟩, fun q hq => .tail _ (.tail _ (.tail _ hq))⟩
set_option maxHeartbeats 4000000 in
theorem set_named : ∀ (_ : rw1 = rw1) {prog : Program} {w : World} {A : Around} {E : Value → Shared → Prop} {s : Shared} {L r : Addr} {h₀ : Heap} {m : PySem.Str → Option Value} {news : Led} {nv : Value} {tds : Tds} {p : Nat} {Q : Unit → Shared → Prop}
    (F : Fr h₀ L s.heap m) (X : (KK w.params).In h₀) (N : News h₀ L s.heap news) (hR : RS news r tds p)
    (h : ∀ h' news', Fr h₀ L h' m → News h₀ L h' news' → RS news' r tds p → Keep news news' → Q () { s with heap := h', toks := s.toks + 2 }),
    wpAny (model prog w) A (setAttr (.ref r) "named" nv) Q E s := by
  k_fill
  intro _ prog w A E s L r h₀ m news nv tds p Q F X N hR h
  obtain ⟨rd, tl, toks, e, t, nv0, n, ln, h1, h2, h3, hl, hz, ht⟩ := hR
  refine set_led (K := KK w.params) (C := 511) (es' := [⟨e.1, .str "tokens" t.1, .ref tl⟩, ⟨e.2.1, .str "at" t.2.1, .int (p : Int) t.2.2.1⟩, ⟨e.2.2, .str "named" t.2.2.2, nv⟩]) (n' := n) F X N (InstAt.of_news N h1 h2) rfl h2 ?k6 ?k7 ?k8 ?k9 ?k10 ?k11 (Nat.le_of_ble_eq_true rfl) fun h' news' F' N' hm hk => h h' news' F' N' (RS.keep h1 h3 hl hz ht (fun q hq hi => hk q hq (isRd_ne hi)) hm) fun q hq hi => hk q hq (isRd_ne hi)
  case k6 => k_dflt k_is
  case k7 => k_dflt k_is
  case k8 => k_dflt k_is
  case k9 => k_dflt k_is
  case k10 => rfl
  case k11 => rfl
def toksOf (ws : List PySem.Str) : Tds := (ws ++ [("." : PySem.Str)]).map tokOf
abbrev Out := (Dat × Nat) ⊕ Nat
theorem ToksPost.toks {n' : Led} {ws : List PySem.Str} {toks : List Value} (hl : toks.length = (ws ++ [("." : PySem.Str)]).length) (hz : ws.length ≤ 900) (h : ∀ (i : Nat) x, (ws ++ [("." : PySem.Str)])[i]? = some x → ∃ a, toks[i]? = some (.ref a) ∧ TokAt n' a i (tokOf x)) : Toks n' toks (toksOf ws) := by
  refine ⟨by rw [hl]; simp [toksOf], by rw [hl]; simp; omega, fun i td hi => ?_⟩
  unfold toksOf at hi
  rw [List.getElem?_map] at hi
  obtain ⟨x, hx, rfl⟩ := Option.map_eq_some_iff.mp hi
  exact h i x hx
theorem inst_ex {h₀ h : Heap} {L e dx : Addr} {news : Led} {vs : Array Value} {sl : Array (Option Value)} {es : List DictEntry} {n : Nat} (N : News h₀ L h news) (h1 : (e, gotObj dx vs sl) ∈ news) (h2 : (dx, dictOf es n) ∈ news) : InstAt h e (gotObj dx vs sl) 122 (some (dictOf es n)) := ⟨(N _ h1).1, rfl, rfl, (N _ h2).1⟩
theorem tup1_led {prog : Program} {w : World} {A : Around} {E : Value → Shared → Prop} {s : Shared} {h₀ : Heap} {L l : Addr} {news : Led} {v0 v1 : Value} {n : Nat} {value slice : PySem.Expr} {u : Tok} {Q : Value → Shared → Prop} (N : News h₀ L s.heap news) (hl : (l, tupO [v0, v1] n) ∈ news)
    (h : Q v1 s) (hs : subscripted slice false (.ref l) (.int 1 u) = operate [.ref l, .int 1 u] (getItem (.ref l) (.int 1 u)) := by with_unfolding_all rfl) :
    wpAny (model prog w) A (subscriptTail value slice (.ref l) (.int 1 u)) Q E s := by
  have ht : IsTup s.heap l [v0, v1].toArray := News.isTup N hl
  exact tail_any ht.typeIs slot_tuple_getitem.lookup (getItem_tuple ht (by decide) (by decide) (seqIndex_of (by decide) (by simp)) (x := v1) (by simp) h) hs
def DoesH (w : World) (f : Addr) (vs : List Value) (d u : Nat) (news : Led) (Post : Value → Led → Prop) : Prop :=
  ∀ (_ : rw1 = rw1) (dp un : Nat) (gd : Option (List Code)) (cn : PySem.Str) (cs : Scope) (a : Addr) (ccd : Value) (A₀ : Around) (base h₀ : Heap) (L : Addr) (m mg mb : PySem.Str → Option Value) (mean : ExcName → Option Value) (s : Shared) (Q E : Value → Shared → Prop),
    Below A₀ base [] h₀ → (KK w.params).In base → Top qv (looseW qv looseV) mean mg mb base → Fr h₀ L s.heap m → (KK w.params).In h₀ → News h₀ L s.heap news → Top qv (looseW qv looseV) mean mg mb h₀ → cs.kind = .function → dp + d < recursionLimit → un + u < cLine →
    (∀ v news' h' tk', Fr h₀ L h' m → News h₀ L h' news' → Post v news' → Q v { s with heap := h', toks := tk' }) →
    wpAny (model pw w) (ktrTop dp un gd cn cs L a ccd [] []) (call (.ref f) vs) Q E s
theorem DoesH.use {w : World} {f : Addr} {vs : List Value} {d u : Nat} {news : Led} {Post : Value → Led → Prop} (H : DoesH w f vs d u news Post)
    {dp un : Nat} {gd : Option (List Code)} {cn : PySem.Str} {cs : Scope} {a : Addr} {ccd : Value} {A₀ : Around} {base h₀ : Heap} {L : Addr} {m mg mb : PySem.Str → Option Value} {mean : ExcName → Option Value} {s : Shared} {Q E : Value → Shared → Prop}
    (B : Below A₀ base [] h₀) (XB : (KK w.params).In base) (TB : Top qv (looseW qv looseV) mean mg mb base) (F : Fr h₀ L s.heap m) (X : (KK w.params).In h₀) (N : News h₀ L s.heap news) (T : Top qv (looseW qv looseV) mean mg mb h₀) (hk : cs.kind = .function) (hd : dp + d < recursionLimit) (hu : un + u < cLine)
    (hret : ∀ v news' h' tk', Fr h₀ L h' m → News h₀ L h' news' → Post v news' → Q v { s with heap := h', toks := tk' }) :
    wpAny (model pw w) (ktrTop dp un gd cn cs L a ccd [] []) (call (.ref f) vs) Q E s := H rfl dp un gd cn cs a ccd A₀ base h₀ L m mg mb mean s Q E B XB TB F X N T hk hd hu hret
def HeardPost (news : Led) (ws : List PySem.Str) (out : Out) (v : Value) (n' : Led) : Prop :=
  KeepT news n' ∧ Tb n' ∧ ((∃ d q, out = .inl (d, q) ∧ DatIn n' v (.tuple [d, .bool ((q : Int) == (ws.length : Int))])) ∨ ∃ i t, out = .inr i ∧ v = .int (i : Int) t)
theorem reg_Hr_1 : True := by
  (k_with "does" => ((fail_if_success walk_at "off_Hr"); first | with_reducible exact reader_does _ _ _ _ _ _ (by k_dflt k_mem) (by assumption)))
  (k_with "does" => ((fail_if_success walk_at "off_Hr"); (with_reducible show Does _ 568 _ _ _ _ _ _; k_dflt (exact tokens_does _ _ _ _ (ws ++ [("." : PySem.Str)]) _ (by k_dflt k_mem) (by k_dflt (exact StrsAre.append' hvs (.cons _ _ .nil))) hvoc2 (by simp; omega) (by simp; omega)))))
  (k_with "doesR" => ((fail_if_success walk_at "off_Hr"); first | with_reducible exact hread _ _ (by walk_at "RS") (by walk_at "Tb")))
  (k_with "setAttr ref" => ((fail_if_success walk_at "off_Hr"); (k_here; k_dflt (refine' set_named rfl ?k1 ?k2 ?k3 ?k4 ?_; (case k1 => k_asm); (case k2 => k_asm); (case k3 => k_asm); (case k4 => walk_at "RS"); k_whole); intro h' n' F' N' hR' hK')))
  (k_with "call type:list" => ((fail_if_success walk_at "off_Hr"); (k_here; (with_reducible show wpAny _ _ (call (Value.type _) [Value.ref _]) _ _ _); k_dflt (refine' kup_listOfT ?F ?N ?b ?e ?_ ?z; (case F => k_asm); (case N => k_asm); (case b => k_mem); (case e => exact rfl); (case z => (first | assumption | (rw [sizeLine_eq]; simp; omega)))); intro D' c' h' F' N' l1; (try k_lt l1))))
  (k_with "binaryOp Add ref ref" => ((fail_if_success walk_at "off_Hr"); (k_here; (with_reducible show wpAny _ _ (binaryOp _ (Value.ref _) (Value.ref _)) _ _ _); k_dflt (refine' kmk_add_lit ?F ?N ?a ?b ?e ?_ ?z; (case F => k_asm); (case N => k_asm); (case a => exact News.isList (by k_asm) (by k_mem)); (case b => exact News.isList (by k_asm) (by k_mem)); (case e => exact rfl); (case z => (rw [sizeLine_eq]; simp; omega))); intro D' h' F' N' l1; (try k_lt l1))))
  trivial
set_option maxHeartbeats 8000000 in
theorem heard_does (w : World) (news : Led) (wa : Addr) (vs : List Value) (ws : List PySem.Str) (k : Nat) (hwa : (wa, tupO vs k) ∈ news) (hvs : StrsAre vs ws) (hvoc : ∀ x ∈ ws, Voc x) (hsz : vs.length ≤ 900) (out : Out)
    (hread : ∀ news' r, RS news' r (toksOf ws) 0 → Tb news' → DoesR w 603 [.ref r, .ref 575] 420 5100 news' (fun v n' => ∃ d q, out = .inl (d, q) ∧ OpPost r (toksOf ws) news' q d v n') (fun i => out = .inr i)) (hTb : Tb news) :
    DoesH w 582 [.ref wa, .ref 603] 480 6000 news (HeardPost news ws out) := by
  have hvoc2 : ∀ x ∈ ws ++ [("." : PySem.Str)], Voc x := by
    intro x hx
    rcases List.mem_append.mp hx with hx | hx
    · exact hvoc x hx
    · obtain rfl := List.mem_singleton.mp hx
      exact ⟨by decide, by decide, fun _ => ⟨by decide +kernel, by decide +kernel⟩⟩
  have hwz : ws.length ≤ 900 := by rw [← hvs.length]; exact hsz
  unfold DoesH
  k_fill
  intro _ dp un gd cn cs a ccd A₀ base h₀ L m mg mb mean s Q E B XB TB F X N T hk hd hu hret
  have hb : Binds w ob582 [.ref wa, .ref 603] [("words", .ref wa), ("read", .ref 603)] := .plain rfl
  refine wpAny_call ?_
  k_dflt (refine' code_defS0 ?k1 ?k2 ?k3 ?k4 ?k5 ?kA ?k6 ?k7 ?k8 ?k9 ?kB ?_ ?cK ?c2 ?c3 ?c4 ?c5; (case kA => exact rfl); (case k2 => k_asm); (case k1 => k_asm); (case k3 => k_asm); (case k4 => k_asm); (case k5 => k_asm); (case k6 => k_is); (case k7 => k_is); (case k8 => ktr_room); (case k9 => (rename Binds _ _ _ _ => hbX; exact hbX _ (by k_in))); (case kB => exact locs rfl); (case cK => assumption); (case c2 => exact rfl); (case c3 => exact rfl); (case c4 => exact rfl); (case c5 => decide))
  k_whole
  intro g' L' h' FG' F' N' B' X' T' hKD
  (try dsimp only)
  (try k_fold)
  k_steps
  · exact hret _ _ _ _ (by k_asm) (by k_asm) ⟨by walk_at "KeepT", by walk_at "Tb", .inl ⟨_, _, ho', .tuple (by k_mem) (.cons (by walk_at "Dat") (.cons (.bool _) .nil))⟩⟩
  · refine Hold.mk ?_
    intro i9 e9 G9 n9 h9 tk9 z9 F9 K9 T9 R9
    refine caughtD (KF := KK w.params) R9 F9 B' XB TB hKD KtsTurn.refl (by k_is) (by kts_isx) ?_
    intro h9 g9 tk9 dx9 vs9 sl9 TU9 F9 N9 hF9 B9 X9 TT9 D9
    obtain ⟨ta9, k19, k29, t19, t29, what9, wt9, nn9, u19, u29, tn9, hdx9, hta9⟩ := hF9
    have hb94 : Binds w ob94 [.ref e9] [("self", .ref e9)] := .plain rfl
    k_steps
    exact hret _ _ _ _ (by k_asm) (by k_asm) ⟨fun q hq hi hn => .tail _ (.tail _ (K9 q ((by walk_at "KeepT" : KeepT news _) q hq hi hn) hi hn)), T9.cons.cons, .inr ⟨i9, _, z9, by rw [Int.add_sub_cancel]⟩⟩
end Mine
theorem off_Hr : True := by
  (k_with "off_Hr" => skip)
  trivial
end

section
open PySem PySem.W PyProof.Rows PySem.Calls PySem.Spec
set_option maxRecDepth 100000
namespace Mine
theorem reg_Lr_0 : True := by
  (k_with "nt on" => ((fail_if_success walk_at "off_Lr"); (skip)))
  (k_with "got more" => ((fail_if_success walk_at "off_Lr"); (intro hP')))
  (k_with "doesR" => ((fail_if_success walk_at "off_Lr"); first | with_reducible exact H _ (by walk_at "RS") (by walk_at "Tb")))
  trivial
set_option maxHeartbeats 8000000 in
theorem law_read_does (w : World) (r : Addr) (news : Led) (tds : Tds) (hR : RS news r tds 0) (hTb : Tb news) (P : Led → Value → Led → Prop) (Rz : Nat → Prop)
    (H : ∀ news', RS news' r tds 0 → Tb news' → DoesR w 300 [.ref r, .ref 575] 400 4900 news' (P news') Rz) : DoesR w 603 [.ref r, .ref 575] 420 5100 news (P news) Rz := by
  unfold DoesR
  k_fill
  intro _ dp un gd cn cs a ccd cl outer A₀ base h₀ L m mg mb mean s Q E B F X N T hk hd hu hret herr
  have hb : Binds w ob603 [.ref r, .ref 575] [("reader", .ref r), ("read_body", .ref 575)] := .plain rfl
  refine wpAny_call ?_
  k_dflt ktr_enter
  k_steps
  · exact hret _ _ _ _ (by k_asm) (by k_asm) hP'
  · refine Hold.mk ?_
    rename Below _ _ _ _ => B9
    intro i9 e9 G9 n9 h9 tk9 z9 F9 K9 T9 R9
    refine leave_next ?_ ?_ B9 F9 R9 (fun h8 R8 => ?_)
    · exact Around.frames_deeper B9.stack
    · rfl
    exact herr _ _ _ _ _ _ z9 (by assumption) (KeepT.trans (by walk_at "KeepT") K9) T9 R8
def Hears (w : World) (ws : List PySem.Str) (out : Out) : Prop := ∀ news' r, RS news' r (toksOf ws) 0 → Tb news' → DoesR w 603 [.ref r, .ref 575] 420 5100 news' (fun v n' => ∃ d q, out = .inl (d, q) ∧ OpPost r (toksOf ws) news' q d v n') (fun i => out = .inr i)
theorem hears_none {w : World} {ws : List PySem.Str} (hlen : Short (toksOf ws)) (o : Op) (hc : tokIs (toksOf ws) 0 "word" "CALL" = true) (hS : Seg (toksOf ws) 1 o.toks) (q1 : Nat) (hq1 : 1 + o.toks.length = q1) (hN : NextOk (toksOf ws) q1)
    (hU : tokIs (toksOf ws) q1 "word" "USING" = false) (rb : Res) (hbr : BrRun (toksOf ws) ["fault", "not fault"] q1 [] rb) (out : Out)
    (ho : ∀ q bs, rb = .inl (q, bs) → out = .inl (.tuple [.str "call", o.dat, .tuple [], .tuple bs], endAt (toksOf ws) q)) (ho2 : ∀ i, rb = .inr i → out = .inr i) : Hears w ws out := by
  intro news r hR hTb
  have hpos : 0 < (toksOf ws).length := by simp [toksOf]
  refine law_read_does w r news (toksOf ws) hR hTb (fun n v n' => ∃ d q, out = .inl (d, q) ∧ OpPost r (toksOf ws) n q d v n') _ fun n hR hTb => ?_
  refine (call_none w r n (toksOf ws) hR hlen hpos hTb o hc hS q1 hq1 hN hU rb fun q2 ds e => ?_).mono (Nat.le_refl _) (Nat.le_refl _) (fun v n' hP => ?_) fun i hB => ?_
  · cases e; exact hbr
  · obtain ⟨q2, ds, q3, bs, e1, e2, h⟩ := hP
    cases e1
    exact ⟨_, _, ho _ _ e2, h⟩
  · rcases hB with h | ⟨q2, ds, h1, h2⟩
    · cases h
    · exact ho2 _ h2
theorem hears_using {w : World} {ws : List PySem.Str} (hlen : Short (toksOf ws)) (o : Op) (hc : tokIs (toksOf ws) 0 "word" "CALL" = true) (hS : Seg (toksOf ws) 1 o.toks) (q1 : Nat) (hq1 : 1 + o.toks.length = q1) (hN : NextOk (toksOf ws) q1)
    (hU : tokIs (toksOf ws) q1 "word" "USING" = true) (ra rb : Res) (hargs : ∀ news' r, RS news' r (toksOf ws) (q1 + 1) → Tb news' → DoesR w 293 [.ref r] 360 4400 news' (fun v n' => ∃ q ds, ra = .inl (q, ds) ∧ OpPost r (toksOf ws) news' q (.tuple ds) v n') (fun i => ra = .inr i))
    (hbr : ∀ q ds, ra = .inl (q, ds) → BrRun (toksOf ws) ["fault", "not fault"] q [] rb) (out : Out)
    (ho : ∀ q2 ds q bs, ra = .inl (q2, ds) → rb = .inl (q, bs) → out = .inl (.tuple [.str "call", o.dat, .tuple ds, .tuple bs], endAt (toksOf ws) q)) (ho1 : ∀ i, ra = .inr i → out = .inr i) (ho2 : ∀ q2 ds i, ra = .inl (q2, ds) → rb = .inr i → out = .inr i) : Hears w ws out := by
  intro news r hR hTb
  have hpos : 0 < (toksOf ws).length := by simp [toksOf]
  refine law_read_does w r news (toksOf ws) hR hTb (fun n v n' => ∃ d q, out = .inl (d, q) ∧ OpPost r (toksOf ws) n q d v n') _ fun n hR hTb => ?_
  refine (call_using w r n (toksOf ws) hR hlen hpos hTb o hc hS q1 hq1 hN hU ra (fun _ n' => hargs n' r) rb hbr).mono (Nat.le_refl _) (Nat.le_refl _) (fun v n' hP => ?_) fun i hB => ?_
  · obtain ⟨q2, ds, q3, bs, e1, e2, h⟩ := hP
    exact ⟨_, _, ho _ _ _ _ e1 e2, h⟩
  · rcases hB with h | ⟨q2, ds, h1, h2⟩
    · exact ho1 _ h
    · exact ho2 _ _ _ h1 h2
end Mine
theorem off_Lr : True := by
  (k_with "off_Lr" => skip)
  trivial
end

section
open PySem PySem.W PyProof.Rows PySem.Calls PySem.Spec
set_option maxRecDepth 100000
namespace Mine
theorem reg_Dw_0 : True := by
  (k_with "nt on" => ((fail_if_success walk_at "off_Dw"); (skip)))
  (k_with "k_mem" => first | ((show _ ∈ _); ktr_member) | exact List.Mem.head _ | (refine' List.mem_cons_of_mem _ ?_; k_mem))
  (k_with "k_mem" => first | ((show _ ∈ _); ktr_member) | exact List.Mem.head _ | (refine' List.mem_cons_of_mem _ ?_; k_mem) | (refine sub_at (by assumption) ?_; k_mem) | (refine keep_at (by assumption) (by first | rfl | decide +kernel) ?_; k_mem) | (refine butC_at (by assumption) tup_nl ?_; k_mem))
  (k_with "k_mem" => first | ((show _ ∈ _); ktr_member) | exact List.Mem.head _ | (refine' List.mem_cons_of_mem _ ?_; k_mem) | (refine sub_at (by assumption) ?_; k_mem) | (refine keep_at (by assumption) (by first | rfl | decide +kernel) ?_; k_mem) | (refine keepT_at (by assumption) rfl (fun z => nomatch z) ?_; k_mem) | (refine tab_at (by assumption) (fun z => nomatch z) ?_; k_mem) | (refine butC_at (by assumption) tup_nl ?_; k_mem))
  (k_with "call ref" => (k_here; (with_reducible show wpAny _ _ (call (Value.ref _) _) _ _ _); (try walk_at "fold"); k_dflt (refine' Does.use0 ?H ?k1 ?k2 ?k3 ?k4 ?k5 ?k6 ?kd ?ku ?_; (case k1 => k_asm); (case k2 => k_asm); (case k3 => k_asm); (case k4 => k_asm); (case k5 => k_asm); (case H => ((try dsimp only [List.cons_append, List.nil_append]); walk_at "does")); (case k6 => first | rfl | assumption); (case kd => walk_at "room"); (case ku => walk_at "room"); k_whole); k_dflt (walk_at "got")))
  (k_with "Tb" => first | assumption | (refine Tb.keep ?_ (by assumption); walk_at "Tb") | (refine Tb.cons ?_; walk_at "Tb") | (refine Tb.sub ?_ (by assumption); walk_at "Tb") | (refine Tb.butC ?_ (by assumption); walk_at "Tb"))
  trivial
def SrcAt (news : Led) (S : Addr) : Prop :=
  ∃ (C : Addr) (cs : List Value) (ns : List Int) (at_ : Int) (t n1 n2 : Nat), (S, W.listOf [.ref C, .int at_ t].toArray n1) ∈ news ∧ (C, W.listOf cs.toArray n2) ∈ news ∧ IntsAre cs ns ∧ 0 < cs.length ∧ cs.length ≤ 60 ∧ 0 ≤ at_
section
variable {prog : Program} {w : World} {A : Around} {E : Value → Shared → Prop} {s : Shared} {h₀ : Heap} {L : Addr} {m : PySem.Str → Option Value} {news : Led}
theorem set1_led {D : Addr} {v0 v1 v : Value} {n : Nat} {t : Tok} {Q : Unit → Shared → Prop} (F : Fr h₀ L s.heap m) (N : News h₀ L s.heap news) (hm : (D, W.listOf [v0, v1].toArray n) ∈ news)
    (h : ∀ h' news', Fr h₀ L h' m → News h₀ L h' news' → (D, W.listOf [v0, v].toArray n) ∈ news' → But D news news' → ButC news news' → Q () { s with heap := h' }) : wpAny (model prog w) A (setItem (.ref D) (.int 1 t) v) Q E s := by
  have N2 : News h₀ L s.heap ((D, W.listOf [v0, v1].toArray n) :: news.filter (fun q => q.1 != D)) := by
    intro q hq
    rcases List.mem_cons.mp hq with rfl | hq
    · exact N _ hm
    · exact N q ((List.mem_filter.mp hq).1)
  have hB : But D news ((D, W.listOf [v0, v].toArray n) :: news.filter (fun q => q.1 != D)) := fun q hq ne => .tail _ (List.mem_filter.mpr ⟨hq, by simpa using ne⟩)
  refine ki_set (q := [v0, v]) F N2 (by decide) (by decide) rfl (Upd.head ?_) (fun h' F' N' => h h' _ F' N' (.head _) hB fun q hq ne => hB q hq ?_)
  · intro p hp
    have := (List.mem_filter.mp hp).2
    simpa using this
  · intro z
    have := Option.some.inj ((N q hq).1.symm.trans (z ▸ (N _ hm).1))
    exact ne (by rw [this])
theorem src0_led {D : Addr} {v0 v1 : Value} {n : Nat} {value slice : PySem.Expr} {u : Tok} {Q : Value → Shared → Prop} (N : News h₀ L s.heap news) (hl : (D, W.listOf [v0, v1].toArray n) ∈ news) (h : Q v0 s)
    (hs : subscripted slice false (.ref D) (.int 0 u) = operate [.ref D, .int 0 u] (getItem (.ref D) (.int 0 u)) := by with_unfolding_all rfl) :
    wpAny (model prog w) A (subscriptTail value slice (.ref D) (.int 0 u)) Q E s :=
  item_led N hl (by simp) (by decide) (by simp) (fun v hv => by obtain rfl := Option.some.inj hv; exact h) hs
theorem src1_led {D : Addr} {v0 v1 : Value} {n : Nat} {value slice : PySem.Expr} {u : Tok} {Q : Value → Shared → Prop} (N : News h₀ L s.heap news) (hl : (D, W.listOf [v0, v1].toArray n) ∈ news) (h : Q v1 s)
    (hs : subscripted slice false (.ref D) (.int 1 u) = operate [.ref D, .int 1 u] (getItem (.ref D) (.int 1 u)) := by with_unfolding_all rfl) :
    wpAny (model prog w) A (subscriptTail value slice (.ref D) (.int 1 u)) Q E s :=
  item_led N hl (by simp) (by decide) (by simp) (fun v hv => by obtain rfl := Option.some.inj hv; exact h) hs
theorem cell_led {D : Addr} {cs : List Value} {ns : List Int} {n : Nat} {value slice : PySem.Expr} {k : Int} {u : Tok} {Q : Value → Shared → Prop} (N : News h₀ L s.heap news) (hl : (D, W.listOf cs.toArray n) ∈ news) (hi : IntsAre cs ns) (hz : cs.length ≤ 1000) (h0 : 0 ≤ k) (hk : k < (cs.length : Int)) (h : ∀ i t, Q (.int i t) s)
    (hs : subscripted slice false (.ref D) (.int k u) = operate [.ref D, .int k u] (getItem (.ref D) (.int k u)) := by with_unfolding_all rfl) :
    wpAny (model prog w) A (subscriptTail value slice (.ref D) (.int k u)) Q E s :=
  item_led N hl hz h0 hk (fun v hv => by
    obtain ⟨t, rfl⟩ := hi.int_at _ v hv
    exact h _ t) hs
end
theorem ne_src {cs : List Value} {ns : List Int} {C : Addr} {a : Int} {t n1 n2 : Nat} (hi : IntsAre cs ns) : W.listOf cs.toArray n2 ≠ W.listOf [.ref C, .int a t].toArray n1 := fun e => by
  have h := congrArg Obj.data e
  injection h with h
  have h2 : cs = [.ref C, .int a t] := by simpa using congrArg Array.toList h
  subst h2
  cases hi
def DrawPost (news : Led) (S : Addr) (n' : Led) : Prop := SrcAt n' S ∧ But S news n' ∧ ButC news n'
theorem reg_Dw_1 : True := by
  (k_with "setItem ref int" => ((fail_if_success walk_at "off_Dw"); (k_here; k_dflt (refine' set1_led ?k1 ?k2 ?k3 ?_; (case k1 => k_asm); (case k2 => k_asm); (case k3 => assumption); k_whole); intro h' n' F' N' hm' hB' hC'; (have hC2 := hB' _ hC1 hCS))))
  (k_with "subscriptTail Name Constant ref int" => ((fail_if_success walk_at "off_Dw"); (k_here; k_dflt (first | ((with_reducible show wpAny _ _ (subscriptTail _ _ (Value.ref _) (Value.int 0 _)) _ _ _); refine' src0_led ?k1 ?k3 ?_ ?k6; (case k1 => k_asm); (case k3 => assumption); (case k6 => with_unfolding_all rfl); k_whole) | ((with_reducible show wpAny _ _ (subscriptTail _ _ (Value.ref _) (Value.int 1 _)) _ _ _); refine' src1_led ?k1 ?k3 ?_ ?k6; (case k1 => k_asm); (case k3 => assumption); (case k6 => with_unfolding_all rfl); k_whole)))))
  (k_with "subscriptTail Name BinOp ref int" => ((fail_if_success walk_at "off_Dw"); (k_here; k_dflt (refine' cell_led ?k1 ?k2 ?k3 ?k4 ?k5 ?k6 ?_ ?k7; (case k1 => k_asm); (case k2 => exact hC2); (case k3 => assumption); (case k4 => omega); (case k5 => exact Int.fmod_nonneg_of_pos _ (by omega)); (case k6 => exact Int.fmod_lt_of_pos _ (by omega)); (case k7 => with_unfolding_all rfl); k_whole); intro i8 t8)))
  trivial
set_option maxHeartbeats 8000000 in
theorem draw_does (w : World) (news : Led) (S : Addr) (lim : Int) (tl : Nat) (hS : SrcAt news S) (hl : 0 < lim) :
    Does w 522 [.ref S, .int lim tl] 20 200 news (fun v n' => (∃ x t, v = .int x t ∧ 0 ≤ x ∧ x < lim) ∧ SrcAt n' S ∧ But S news n' ∧ ButC news n') (fun _ _ => False) := by
  obtain ⟨C, ce, ns, at_, t, n1, n2, hS1, hC1, hi, hn0, hn, ha0⟩ := hS
  have hn9 : ce.length ≤ 1000 := by omega
  unfold Does
  k_fill
  intro _ dp un gd cn cs a ccd cl outer A₀ base h₀ L m mg mb mean s Q E B F X N T hk hd hu hret herr
  have hb : Binds w ob522 [.ref S, .int lim tl] [("source", .ref S), ("limit", .int lim tl)] := .plain rfl
  have hCS : C ≠ S := News.ne N hC1 hS1 (ne_src hi)
  refine wpAny_call ?_
  k_dflt ktr_enter
  k_steps
  exact hret _ _ _ _ (by k_asm) (by k_asm) ⟨⟨_, _, rfl, Int.fmod_nonneg_of_pos _ hl, Int.fmod_lt_of_pos _ hl⟩, ⟨C, ce, ns, _, _, _, _, hm', hC2, hi, hn0, hn, by omega⟩, hB', hC'⟩
theorem SrcAt.sub {a b : Led} {S : Addr} (h : SrcAt a S) (k : ∀ q ∈ a, q ∈ b) : SrcAt b S := by
  obtain ⟨C, cs, ns, at_, t, n1, n2, h1, h2, r⟩ := h
  exact ⟨C, cs, ns, at_, t, n1, n2, k _ h1, k _ h2, r⟩
theorem SrcAt.cons {a : Led} {S : Addr} {o : Addr × Obj} (h : SrcAt a S) : SrcAt (o :: a) S := h.sub fun _ => List.mem_cons_of_mem _
theorem SrcAt.keepT {a b : Led} {S : Addr} (h : SrcAt a S) (k : KeepT a b) : SrcAt b S := by
  obtain ⟨C, cs, ns, at_, t, n1, n2, h1, h2, r⟩ := h
  exact ⟨C, cs, ns, at_, t, n1, n2, k _ h1 rfl (fun z => nomatch z), k _ h2 rfl (fun z => nomatch z), r⟩
theorem tupi_led {prog : Program} {w : World} {A : Around} {E : Value → Shared → Prop} {s : Shared} {h₀ : Heap} {L l : Addr} {news : Led} {vs : List Value} {n : Nat} {value slice : PySem.Expr} {k : Int} {u : Tok} {Q : Value → Shared → Prop} (N : News h₀ L s.heap news) (hl : (l, tupO vs n) ∈ news) (hz : vs.length ≤ 1000)
    (h0 : 0 ≤ k) (hk : k < (vs.length : Int)) (h : ∀ v, vs[k.toNat]? = some v → Q v s)
    (hs : subscripted slice false (.ref l) (.int k u) = operate [.ref l, .int k u] (getItem (.ref l) (.int k u)) := by with_unfolding_all rfl) :
    wpAny (model prog w) A (subscriptTail value slice (.ref l) (.int k u)) Q E s := by
  have hlt : k.toNat < vs.length := by omega
  have ht : IsTup s.heap l vs.toArray := News.isTup N hl
  exact tail_any ht.typeIs slot_tuple_getitem.lookup (getItem_tuple ht (by omega) (by simp; omega) (seqIndex_of (by omega) (by simp; omega)) (x := vs[k.toNat]) (by simp [hlt]) (h _ (List.getElem?_eq_getElem hlt))) hs
end Mine
theorem off_Dw : True := by
  (k_with "off_Dw" => skip)
  trivial
end

section
open PySem PySem.W PyProof.Rows PySem.Calls PySem.Spec
set_option maxRecDepth 100000
namespace Mine
def trs : Led :=
  [(528, tupO [] 0), (529, tupO [] 0), (530, tupO [.str "ref" 909, .str "A" 910, .ref 528, .ref 529, .none] 0), (531, tupO [.str "C" 914] 0), (532, tupO [] 0), (533, tupO [.str "ref" 912, .str "B" 913, .ref 531, .ref 532, .none] 0),
   (534, tupO [] 0), (535, tupO [.int 2 919, .int 0 920] 0), (536, tupO [.str "number" 918, .ref 535] 0), (537, tupO [.ref 536] 0), (538, tupO [.str "ref" 916, .str "T" 917, .ref 534, .ref 537, .none] 0),
   (583, tupO [.str "7" 974] 0), (584, tupO [.int 7 976, .int 0 977] 0), (585, tupO [.str "number" 975, .ref 584] 0), (586, tupO [.ref 583, .ref 585] 0), (587, tupO [.str "!Q" 978] 0), (588, tupO [.str "text" 979, .bytes #[81] 980] 0), (589, tupO [.ref 587, .ref 588] 0),
   (590, tupO [.str "ZEROS" 981] 0), (591, tupO [.str "figure" 982, .str "ZERO" 983] 0), (592, tupO [.ref 590, .ref 591] 0), (593, tupO [.str "ALL" 984, .str "!AB" 985] 0), (594, tupO [.str "all" 986, .bytes #[65, 66] 987] 0), (595, tupO [.ref 593, .ref 594] 0), (596, tupO [.ref 586, .ref 589, .ref 592, .ref 595] 0)]
theorem trs_K (P : Params) : ∀ q ∈ trs, (KK P).lookup q.1 = some q.2 := by
  intro q hq
  simp only [trs, List.mem_cons, List.not_mem_nil, or_false] at hq
  rcases hq with rfl | rfl | rfl | rfl | rfl | rfl | rfl | rfl | rfl | rfl | rfl | rfl | rfl | rfl | rfl | rfl | rfl | rfl | rfl | rfl | rfl | rfl | rfl | rfl | rfl <;> rfl
abbrev All (n : Led) : Led := n ++ trs
theorem all_get {P : Params} {h₀ h : Heap} {L : Addr} {news : Led} (N : News h₀ L h news) (X : (KK P).In h) : ∀ q ∈ All news, h.get? q.1 = some q.2 := by
  intro q hq
  rcases List.mem_append.mp hq with hq | hq
  · exact (N q hq).1
  · exact X _ _ (trs_K P q hq)
def Up (a b : Led) : Prop := ∀ y vs n, (y, tupO vs n) ∈ a → (y, tupO vs n) ∈ b
theorem Up.refl {a : Led} : Up a a := fun _ _ _ h => h
theorem Up.trans {a b c : Led} (x : Up a b) (y : Up b c) : Up a c := fun _ _ _ h => y _ _ _ (x _ _ _ h)
theorem Up.sub {a b : Led} (k : ∀ q ∈ a, q ∈ b) : Up a b := fun _ _ _ h => k _ h
theorem Up.butC {a b : Led} (k : ButC a b) : Up a b := fun _ _ _ h => k _ h tup_nl
theorem Up.keepT {a b : Led} (k : KeepT a b) : Up a b := fun _ _ _ h => k _ h rfl (fun z => nomatch z)
theorem Up.butIt {a b : Led} (k : ButIt a b) : Up a b := fun _ _ _ h => k _ h (ty_ne (by decide)) (ty_ne (by decide))
theorem Up.all {a b : Led} (k : Up a b) : Up (All a) (All b) := fun y vs n h => by
  rcases List.mem_append.mp h with h | h
  · exact List.mem_append.mpr (.inl (k _ _ _ h))
  · exact List.mem_append.mpr (.inr h)
mutual
theorem DatIn.up {a b : Led} (k : Up a b) : ∀ {v : Value} {d : Dat}, DatIn a v d → noL d = true → DatIn b v d
  | _, _, .none, _ => .none
  | _, _, .bool x, _ => .bool x
  | _, _, .int i t, _ => .int i t
  | _, _, .str x t, _ => .str x t
  | _, _, .bytes x t, _ => .bytes x t
  | _, _, .tuple hm r, hn => .tuple (k _ _ _ hm) (DatAll.up k r (by simpa [noL] using hn))
  | _, _, .list _ _, hn => by simp [noL] at hn
theorem DatAll.up {a b : Led} (k : Up a b) : ∀ {vs : List Value} {ds : List Dat}, DatAll a vs ds → noLs ds = true → DatAll b vs ds
  | _, _, .nil, _ => .nil
  | _, _, .cons h r, hn => .cons (DatIn.up k h (by simp [noLs] at hn; exact hn.1)) (DatAll.up k r (by simp [noLs] at hn; exact hn.2))
end
def TupW (news : Led) (a : Addr) (ws : List PySem.Str) : Prop := ∃ vs k, (a, tupO vs k) ∈ All news ∧ StrsAre vs ws
theorem TupW.up {a b : Led} {wa : Addr} {ws : List PySem.Str} (h : TupW a wa ws) (k : Up a b) : TupW b wa ws := by
  obtain ⟨vs, n, h1, h2⟩ := h
  exact ⟨vs, n, k.all _ _ _ h1, h2⟩
def Op.words : Op → List PySem.Str
  | .A => ["A"]
  | .bOf => ["B", "OF", "C"]
  | .bIn => ["B", "IN", "C"]
  | .T => ["T", "(", "2", ")"]
  | .n7 => ["7"]
  | .lQ => ["!Q"]
  | .lSUB => ["!SUB"]
  | .zs => ["ZEROS"]
  | .z => ["ZERO"]
  | .allAB => ["ALL", "!AB"]
inductive PairAt (news : Led) (v : Value) (o : Op) : Prop
  | mk (a) (wt) (k) (tv) : (v = .ref a) → ((a, tupO [.ref wt, tv] k) ∈ All news) → (TupW news wt o.words) → (DatIn (All news) tv o.dat) → PairAt news v o
theorem PairAt.up {a b : Led} {v : Value} {o : Op} (h : PairAt a v o) (k : Up a b) : PairAt b v o := by
  obtain ⟨x, wt, n, tv, e, h1, h2, h3⟩ := h
  exact ⟨x, wt, n, tv, e, k.all _ _ _ h1, h2.up k, DatIn.up k.all h3 o.noL⟩
theorem tq {n : Led} {q : Addr × Obj} (i : Nat) (e : trs[i]? = some q) : q ∈ All n := List.mem_append_right _ (List.mem_of_getElem? e)
theorem dat_A (n : Led) : DatIn (All n) (.ref 530) Op.A.dat := .tuple (tq 2 rfl) (.cons (.str _ _) (.cons (.str _ _) (.cons (.tuple (tq 0 rfl) .nil) (.cons (.tuple (tq 1 rfl) .nil) (.cons .none .nil)))))
theorem dat_B (n : Led) : DatIn (All n) (.ref 533) Op.bOf.dat := .tuple (tq 5 rfl) (.cons (.str _ _) (.cons (.str _ _) (.cons (.tuple (tq 3 rfl) (.cons (.str _ _) .nil)) (.cons (.tuple (tq 4 rfl) .nil) (.cons .none .nil)))))
theorem dat_T (n : Led) : DatIn (All n) (.ref 538) Op.T.dat := .tuple (tq 10 rfl) (.cons (.str _ _) (.cons (.str _ _) (.cons (.tuple (tq 6 rfl) .nil) (.cons (.tuple (tq 9 rfl) (.cons (.tuple (tq 8 rfl) (.cons (.str _ _) (.cons (.tuple (tq 7 rfl) (.cons (.int _ _) (.cons (.int _ _) .nil))) .nil))) .nil)) (.cons .none .nil)))))
theorem pair_7 (n : Led) : PairAt n (.ref 586) .n7 := ⟨586, 583, 0, .ref 585, rfl, tq 14 rfl, ⟨_, _, tq 11 rfl, .cons _ _ .nil⟩, .tuple (tq 13 rfl) (.cons (.str _ _) (.cons (.tuple (tq 12 rfl) (.cons (.int _ _) (.cons (.int _ _) .nil))) .nil))⟩
theorem pair_Q (n : Led) : PairAt n (.ref 589) .lQ := ⟨589, 587, 0, .ref 588, rfl, tq 17 rfl, ⟨_, _, tq 15 rfl, .cons _ _ .nil⟩, .tuple (tq 16 rfl) (.cons (.str _ _) (.cons (.bytes _ _) .nil))⟩
theorem pair_Z (n : Led) : PairAt n (.ref 592) .zs := ⟨592, 590, 0, .ref 591, rfl, tq 20 rfl, ⟨_, _, tq 18 rfl, .cons _ _ .nil⟩, .tuple (tq 19 rfl) (.cons (.str _ _) (.cons (.str _ _) .nil))⟩
theorem pair_AB (n : Led) : PairAt n (.ref 595) .allAB := ⟨595, 593, 0, .ref 594, rfl, tq 23 rfl, ⟨_, _, tq 21 rfl, .cons _ _ (.cons _ _ .nil)⟩, .tuple (tq 22 rfl) (.cons (.str _ _) (.cons (.bytes _ _) .nil))⟩
theorem others_at (n : Led) : (596, tupO [.ref 586, .ref 589, .ref 592, .ref 595] 0) ∈ All n := tq 24 rfl
def PairsAt (news : Led) (P : Op → Prop) (vs : List Value) : Prop := ∀ v ∈ vs, ∃ o, P o ∧ PairAt news v o
theorem others_pairs (n : Led) : PairsAt n (fun _ => True) [.ref 586, .ref 589, .ref 592, .ref 595] := by
  intro v hv
  simp only [List.mem_cons, List.not_mem_nil, or_false] at hv
  rcases hv with rfl | rfl | rfl | rfl
  · exact ⟨_, trivial, pair_7 n⟩
  · exact ⟨_, trivial, pair_Q n⟩
  · exact ⟨_, trivial, pair_Z n⟩
  · exact ⟨_, trivial, pair_AB n⟩
theorem PairsAt.up {a b : Led} {P : Op → Prop} {vs : List Value} (h : PairsAt a P vs) (k : Up a b) : PairsAt b P vs := fun v hv => let ⟨o, p, q⟩ := h v hv; ⟨o, p, q.up k⟩
theorem PairsAt.app {a : Led} {P : Op → Prop} {vs us : List Value} (h : PairsAt a P vs) (k : PairsAt a P us) : PairsAt a P (vs ++ us) := fun v hv => (List.mem_append.mp hv).elim (h v) (k v)
theorem PairsAt.mono {a : Led} {P P' : Op → Prop} {vs : List Value} (h : PairsAt a P vs) (k : ∀ o, P o → P' o) : PairsAt a P' vs := fun v hv => let ⟨o, p, q⟩ := h v hv; ⟨o, k o p, q⟩
section
variable {prog : Program} {w : World} {A : Around} {E : Value → Shared → Prop} {s : Shared} {h₀ : Heap} {L : Addr} {m : PySem.Str → Option Value} {news : Led} {Q : Value → Shared → Prop}
theorem all_tup {a : Addr} {vs : List Value} {n : Nat} (F : Fr h₀ L s.heap m) (N : News h₀ L s.heap news) (X : (KK w.params).In h₀) (h : (a, tupO vs n) ∈ All news) : IsTup s.heap a vs.toArray := ⟨_, all_get N (X.keeps F.keep) _ h, rfl, _, rfl⟩
theorem add_tup {a b : Addr} {vs us : List Value} {n1 n2 : Nat} (F : Fr h₀ L s.heap m) (N : News h₀ L s.heap news) (X : (KK w.params).In h₀) (h1 : (a, tupO vs n1) ∈ All news) (h2 : (b, tupO us n2) ∈ All news) (hz : vs.length + us.length ≤ 4000)
    (h : ∀ D n h' news', Fr h₀ L h' m → News h₀ L h' news' → (∀ q ∈ news, q ∈ news') → (D, tupO (vs ++ us) n) ∈ All news' → Q (.ref D) { s with heap := h' }) : wpAny (model prog w) A (binaryOp .Add (.ref a) (.ref b)) Q E s := by
  refine add_tuples F N (all_tup F N X h1) (all_tup F N X h2) (fun e => ?_) (fun _ e => ?_) (fun _ _ h' F' N' => ?_) (by rw [sizeLine_eq]; omega)
  · subst e; exact h b n2 s.heap news F N (fun _ h => h) h2
  · subst e; exact h a n1 s.heap news F N (fun _ h => h) (by rw [List.append_nil]; exact h1)
  · exact h _ _ h' _ F' N' (fun _ h => List.mem_cons_of_mem _ h) (List.mem_append_left _ (.head _))
theorem addW {a b : Addr} {ws us : List PySem.Str} (F : Fr h₀ L s.heap m) (N : News h₀ L s.heap news) (X : (KK w.params).In h₀) (h1 : TupW news a ws) (h2 : TupW news b us) (hz : ws.length + us.length ≤ 4000)
    (h : ∀ D h' news', Fr h₀ L h' m → News h₀ L h' news' → (∀ q ∈ news, q ∈ news') → TupW news' D (ws ++ us) → Q (.ref D) { s with heap := h' }) : wpAny (model prog w) A (binaryOp .Add (.ref a) (.ref b)) Q E s := by
  obtain ⟨vs, n1, h1, e1⟩ := h1
  obtain ⟨xs, n2, h2, e2⟩ := h2
  have l1 := e1.length
  have l2 := e2.length
  exact add_tup F N X h1 h2 (by omega) fun D n h' news' F' N' k hD => h D h' news' F' N' k ⟨_, n, hD, StrsAre.append' e1 e2⟩
theorem addP {a b : Addr} {vs us : List Value} {n1 n2 : Nat} {P : Op → Prop} (F : Fr h₀ L s.heap m) (N : News h₀ L s.heap news) (X : (KK w.params).In h₀) (h1 : (a, tupO vs n1) ∈ All news) (p1 : PairsAt news P vs) (h2 : (b, tupO us n2) ∈ All news) (p2 : PairsAt news P us) (hz : vs.length + us.length ≤ 4000)
    (h : ∀ D n h' news', Fr h₀ L h' m → News h₀ L h' news' → (∀ q ∈ news, q ∈ news') → (D, tupO (vs ++ us) n) ∈ All news' → PairsAt news' P (vs ++ us) → Q (.ref D) { s with heap := h' }) : wpAny (model prog w) A (binaryOp .Add (.ref a) (.ref b)) Q E s :=
  add_tup F N X h1 h2 hz fun D n h' news' F' N' k hD => h D n h' news' F' N' k hD ((p1.up (Up.sub k)).app (p2.up (Up.sub k)))
end
theorem fr4 {g h : Heap} {L : Addr} {m : PySem.Str → Option Value} {k1 k2 k3 k4 : PySem.Str} {v1 v2 v3 v4 : Option Value} (F : Fr g L h m) (h1 : m k1 = v1) (h2 : m k2 = v2) (h3 : m k3 = v3) (h4 : m k4 = v4) :
    Fr g L h (fun y => if y = k1 then v1 else if y = k2 then v2 else if y = k3 then v3 else if y = k4 then v4 else m y) := by
  refine Fr.congr F fun y => ?_
  by_cases e1 : y = k1
  · rw [if_pos e1, e1, h1]
  rw [if_neg e1]
  by_cases e2 : y = k2
  · rw [if_pos e2, e2, h2]
  rw [if_neg e2]
  by_cases e3 : y = k3
  · rw [if_pos e3, e3, h3]
  rw [if_neg e3]
  by_cases e4 : y = k4
  · rw [if_pos e4, e4, h4]
  rw [if_neg e4]
end Mine
end

section
open PySem PySem.W PyProof.Rows PySem.Calls PySem.Spec
set_option maxRecDepth 100000
namespace Mine
theorem reg_Rg_0 : True := by
  (k_with "nt on" => ((fail_if_success walk_at "off_Rg"); (skip)))
  (k_with "k_mem" => first | ((show _ ∈ _); ktr_member) | exact List.Mem.head _ | (refine' List.mem_cons_of_mem _ ?_; k_mem))
  (k_with "k_mem" => first | ((show _ ∈ _); ktr_member) | exact List.Mem.head _ | (refine' List.mem_cons_of_mem _ ?_; k_mem) | (refine sub_at (by assumption) ?_; k_mem) | (refine keep_at (by assumption) (by first | rfl | decide +kernel) ?_; k_mem) | (refine butC_at (by assumption) tup_nl ?_; k_mem))
  trivial
inductive RefsPost (news : Led) (v : Value) (n' : Led) : Prop
  | mk (tu : Addr) (items : List Value) (k : Nat) : (v = .ref tu) → ((tu, tupO items k) ∈ n') → (items.length = 4) → (PairsAt n' (fun o => o.isRef = true) items) → ((∀ q ∈ news, q ∈ n')) → RefsPost news v n'
set_option maxHeartbeats 8000000 in
theorem refs_does (w : World) (news : Led) : Does w 547 [] 20 200 news (RefsPost news) (fun _ _ => False) := by
  unfold Does
  k_fill
  intro _ dp un gd cn cs a ccd cl outer A₀ base h₀ L m mg mb mean s Q E B F X N T hk hd hu hret herr
  have hb : Binds w ob547 [] [] := .plain rfl
  refine wpAny_call ?_
  k_dflt ktr_enter
  k_steps
  refine hret _ _ _ _ (by k_asm) (by k_asm) ⟨_, [_, _, _, _], _, rfl, by k_mem, rfl, ?_, by walk_at "Sub"⟩
  intro v hv
  simp only [List.mem_cons, List.not_mem_nil, or_false] at hv
  rcases hv with rfl | rfl | rfl | rfl
  · exact ⟨.A, rfl, _, _, _, _, rfl, List.mem_append_left _ (by k_mem), ⟨_, _, List.mem_append_left _ (by k_mem), by repeat constructor⟩, dat_A _⟩
  · exact ⟨.bOf, rfl, _, _, _, _, rfl, List.mem_append_left _ (by k_mem), ⟨_, _, List.mem_append_left _ (by k_mem), by repeat constructor⟩, dat_B _⟩
  · exact ⟨.T, rfl, _, _, _, _, rfl, List.mem_append_left _ (by k_mem), ⟨_, _, List.mem_append_left _ (by k_mem), by repeat constructor⟩, dat_T _⟩
  · exact ⟨.bIn, rfl, _, _, _, _, rfl, List.mem_append_left _ (by k_mem), ⟨_, _, List.mem_append_left _ (by k_mem), by repeat constructor⟩, dat_B _⟩
theorem tupA_led {prog : Program} {w : World} {A : Around} {E : Value → Shared → Prop} {s : Shared} {l : Addr} {vs : List Value} {value slice : PySem.Expr} {k : Int} {u : Tok} {Q : Value → Shared → Prop} (ht : IsTup s.heap l vs.toArray) (hz : vs.length ≤ 1000)
    (h0 : 0 ≤ k) (hk : k < (vs.length : Int)) (h : ∀ v, vs[k.toNat]? = some v → Q v s)
    (hs : subscripted slice false (.ref l) (.int k u) = operate [.ref l, .int k u] (getItem (.ref l) (.int k u)) := by with_unfolding_all rfl) :
    wpAny (model prog w) A (subscriptTail value slice (.ref l) (.int k u)) Q E s := by
  have hlt : k.toNat < vs.length := by omega
  exact tail_any ht.typeIs slot_tuple_getitem.lookup (getItem_tuple ht (by omega) (by simp; omega) (seqIndex_of (by omega) (by simp; omega)) (x := vs[k.toNat]) (by simp [hlt]) (h _ (List.getElem?_eq_getElem hlt))) hs
theorem reg_Rg_1 : True := by
  (k_with "does" => ((fail_if_success walk_at "off_Rg"); first | with_reducible exact draw_does _ _ _ _ _ (by first | assumption | exact SrcAt.cons (by assumption)) (by first | with_reducible assumption | decide | omega)))
  (k_with "call builtin:len" => ((fail_if_success walk_at "off_Rg"); (k_here; (with_reducible show wpAny _ _ (call (Value.builtin "len") [Value.ref so]) _ _ _); k_dflt (refine' kun_lenT (items := items.toArray) (k := (items.length : Int)) ?k1 ?k2 ?k3 ?_; (case k1 => exact all_tup (n := k) (by k_asm) (by k_asm) (by k_asm) hT); (case k2 => simp); (case k3 => omega); k_whole))))
  (k_with "got more" => ((fail_if_success walk_at "off_Rg"); (intro hv'; obtain ⟨⟨x', t', hv', hx0', hxl'⟩, hS', hB', hC'⟩ := hv'; subst hv')))
  (k_with "subscriptTail Name Call ref int" => ((fail_if_success walk_at "off_Rg"); (k_here; k_dflt (refine' tupA_led ?k1 ?k2 ?k5 ?k6 ?_ ?k7; (case k1 => exact all_tup (n := k) (by k_asm) (by k_asm) (by k_asm) ((Up.butC hC').all _ _ _ hT)); (case k2 => omega); (case k5 => omega); (case k6 => omega); (case k7 => with_unfolding_all rfl); k_whole); intro vI hI)))
  trivial
set_option maxHeartbeats 8000000 in
theorem pickA_does (w : World) (news : Led) (S so : Addr) (items : List Value) (k : Nat) (hS : SrcAt news S) (hT : (so, tupO items k) ∈ All news) (hi0 : 0 < items.length) (hi : items.length ≤ 60) :
    Does w 561 [.ref S, .ref so] 40 300 news (fun v n' => (∃ i : Nat, items[i]? = some v) ∧ SrcAt n' S ∧ But S news n' ∧ ButC news n') (fun _ _ => False) := by
  unfold Does
  k_fill
  intro _ dp un gd cn cs a ccd cl outer A₀ base h₀ L m mg mb mean s Q E B F X N T hk hd hu hret herr
  have hb : Binds w ob561 [.ref S, .ref so] [("source", .ref S), ("some", .ref so)] := .plain rfl
  refine wpAny_call ?_
  k_dflt ktr_enter
  k_steps
  exact hret _ _ _ _ (by k_asm) (by k_asm) ⟨⟨_, hI⟩, hS', hB', hC'⟩
end Mine
theorem off_Rg : True := by
  (k_with "off_Rg" => skip)
  trivial
end

section
open PySem PySem.W PyProof.Rows PySem.Calls PySem.Spec
set_option maxRecDepth 100000
namespace Mine
theorem SrcAt.butIt {a b : Led} {S : Addr} (h : SrcAt a S) (k : ButIt a b) : SrcAt b S := by
  obtain ⟨C, cs, ns, at_, t, n1, n2, h1, h2, r⟩ := h
  exact ⟨C, cs, ns, at_, t, n1, n2, k _ h1 (ty_ne (by decide)) (ty_ne (by decide)), k _ h2 (ty_ne (by decide)) (ty_ne (by decide)), r⟩
def byW (b : Bool) : List PySem.Str := if b then ["BY"] else []
def Pre.words : Pre → List PySem.Str
  | .no => []
  | .ref b => byW b ++ [("REFERENCE" : PySem.Str)]
  | .con b => byW b ++ [("CONTENT" : PySem.Str)]
def rowWords (x : Row) : List PySem.Str := x.1.words ++ x.2.words
def rowsWords : List Row → List PySem.Str
  | [] => []
  | x :: xs => rowWords x ++ rowsWords xs
def modeOf : PySem.Str → List Row → PySem.Str
  | m, [] => m
  | m, x :: xs => modeOf (x.1.mode m) xs
theorem rowsWords_snoc (x : Row) : ∀ xs, rowsWords (xs ++ [x]) = rowsWords xs ++ rowWords x
  | [] => by simp [rowsWords]
  | y :: ys => by simp [rowsWords, rowsWords_snoc x ys, List.append_assoc]
theorem modeOf_snoc (x : Row) : ∀ m xs, modeOf m (xs ++ [x]) = x.1.mode (modeOf m xs)
  | _, [] => rfl
  | m, y :: ys => modeOf_snoc x _ ys
theorem rowsDat_snoc (x : Row) : ∀ m xs, rowsDat m (xs ++ [x]) = rowsDat m xs ++ [.tuple [.str (x.1.mode (modeOf m xs)), x.2.dat]]
  | _, [] => rfl
  | m, y :: ys => by
    show _ :: rowsDat _ (ys ++ [x]) = _
    rw [rowsDat_snoc x _ ys]; rfl
theorem rowsOk_snoc (x : Row) : ∀ m xs, rowsOk m xs → (x.1.mode (modeOf m xs) = "reference" → x.2.isRef = true) → rowsOk m (xs ++ [x])
  | _, [], _, h => ⟨h, trivial⟩
  | m, y :: ys, h, k => ⟨h.1, rowsOk_snoc x _ ys h.2 k⟩
theorem rowsDat_noL : ∀ m xs, noLs (rowsDat m xs) = true
  | _, [] => rfl
  | m, y :: ys => by simp [rowsDat, noLs, noL, Op.noL, rowsDat_noL]
theorem op_len (o : Op) : o.words.length ≤ 4 := by cases o <;> decide
theorem rowsDat_len : ∀ m xs, (rowsDat m xs).length = xs.length
  | _, [] => rfl
  | m, y :: ys => congrArg (· + 1) (rowsDat_len _ ys)
theorem words_len (xs : List Row) : (rowsWords xs).length ≤ 10 * xs.length := by
  induction xs with
  | nil => simp [rowsWords]
  | cons x xs ih =>
    obtain ⟨p, o⟩ := x
    have h1 : p.words.length ≤ 2 := by
      cases p with
      | no => decide
      | ref b => cases b <;> decide
      | con b => cases b <;> decide
    have h2 : o.words.length ≤ 4 := by cases o <;> decide
    simp only [rowsWords, rowWords, List.length_append, List.length_cons]
    omega
theorem way3 (x : Int) : x = 1 ∨ x = 2 ∨ (x == 1 || x == 2) = false := by
  by_cases h1 : x = 1
  · exact .inl h1
  by_cases h2 : x = 2
  · exact .inr (.inl h2)
  · exact .inr (.inr (by simp [h1, h2]))
def hitI (x : Int) : Value → Bool
  | .int i _ => i == x
  | _ => false
theorem in_12 {prog : Program} {w : World} {A : Around} {E : Value → Shared → Prop} {s : Shared} {h₀ : Heap} {L a : Addr} {news : Led} {t1 t2 t k : Nat} {x : Int} {b : Bool} {Q : Value → Shared → Prop} (N : News h₀ L s.heap news) (hm : (a, tupO [.int 1 t1, .int 2 t2] k) ∈ news) (hb : (x == 1 || x == 2) = b) (h : Q (.bool b) s) :
    wpAny (model prog w) A (compareOp .In (.int x t) (.ref a)) Q E s := by
  refine SeqAt.in_tupleAt (hitI x) (News.isTup N hm) (fun y hy => ?_) ?_
  · have hy : y = .int 1 t1 ∨ y = .int 2 t2 := by simpa using hy
    rcases hy with rfl | rfl
    · exact SeqAt.EqAt.int_int 1 t1 x t
    · exact SeqAt.EqAt.int_int 2 t2 x t
  · have e : ([Value.int 1 t1, .int 2 t2].toArray.any (hitI x)) = b := by
      subst hb
      simp only [List.any_toArray, List.any_cons, List.any_nil, hitI, Bool.or_false]
      rw [Bool.eq_iff_iff]
      simp only [Bool.or_eq_true, beq_iff_eq]
      omega
    rw [e]; exact h
theorem fr_at {m : PySem.Str → Option Value} {k x : PySem.Str} {v w : Option Value} (h : m k = v) (ne : k ≠ x) : (fun y => if y = x then w else m y) k = v := by
  show (if k = x then w else m k) = v
  rw [if_neg ne, h]
inductive ArgInv (S D : Addr) (news : Led) (i : Nat) (m : PySem.Str → Option Value) (nw : Led) : Prop
  | mk (xs : List Row) (its : Array Value) (nD : Nat) (mo : PySem.Str) (mt : Nat) (wa : Addr) : (xs.length = i) → (m "source" = some (.ref S)) → (m "words" = some (.ref wa)) → (m "rows" = some (.ref D)) → (m "mode" = some (.str mo mt)) → (TupW nw wa (rowsWords xs)) → ((D, W.listOf its nD) ∈ nw) → (DatAll (All nw) its.toList (rowsDat "reference" xs)) → (modeOf "reference" xs = mo) → (isMode mo) → (rowsOk "reference" xs) → (SrcAt nw S) → (Up news nw) → (Tb nw) → ArgInv S D news i m nw
inductive ArgsPost (news : Led) (S : Addr) (v : Value) (n' : Led) : Prop
  | mk (a wa ra : Addr) (xs : List Row) (k : Nat) : (v = .ref a) → ((a, tupO [.ref wa, .ref ra] k) ∈ n') → (TupW n' wa (rowsWords xs)) → (DatIn (All n') (.ref ra) (.tuple (rowsDat "reference" xs))) → (xs ≠ []) → (xs.length ≤ 4) → (rowsOk "reference" xs) → (SrcAt n' S) → (Up news n') → (Tb n') → ArgsPost news S v n'
theorem arg_end {S D wa' pa : Addr} {news nw n2 : Led} {i : Nat} {m : PySem.Str → Option Value} {xs : List Row} {its : Array Value} {nD mt' pk pt : Nat} {mo mo' : PySem.Str} {pre : Pre} {o : Op} {tv : Value}
    (hlen : xs.length = i) (hmode : modeOf "reference" xs = mo) (hok : rowsOk "reference" xs) (hdat : DatAll (All nw) its.toList (rowsDat "reference" xs)) (hUp : Up news nw) (hmo : isMode mo) (e : pre.mode mo = mo')
    (m1 : m "source" = some (.ref S)) (m2 : m "words" = some (.ref wa')) (m3 : m "rows" = some (.ref D)) (m4 : m "mode" = some (.str mo' mt')) (hr : mo' = "reference" → o.isRef = true)
    (hU : Up nw n2) (hW : TupW n2 wa' (rowsWords xs ++ rowWords (pre, o))) (hD : (D, W.listOf (its.push (.ref pa)) nD) ∈ n2) (hP : (pa, tupO [.str mo' pt, tv] pk) ∈ n2) (hd : DatIn (All n2) tv o.dat) (hS : SrcAt n2 S) (hT : Tb n2) : ArgInv S D news (i + 1) m n2 := by
  subst hlen
  subst hmode
  subst e
  refine ⟨xs ++ [(pre, o)], _, _, _, _, _, by simp, m1, m2, m3, m4, by rw [rowsWords_snoc]; exact hW, hD, ?_, modeOf_snoc _ _ _, Pre.isMode hmo pre, rowsOk_snoc _ _ _ hok hr, hS, hUp.trans hU, hT⟩
  rw [rowsDat_snoc]
  exact DatAll.push (DatAll.up (Up.all hU) hdat (rowsDat_noL _ _)) (.tuple (List.mem_append_left _ hP) (.cons (.str _ _) (.cons hd .nil)))
theorem TupW.cast {n : Led} {a : Addr} {ws us : List PySem.Str} (h : TupW n a ws) (e : ws = us) : TupW n a us := e ▸ h
theorem SrcAt.app {h₀ h : Heap} {L S D : Addr} {a b : Led} {its : Array Value} {n : Nat} (N : News h₀ L h a) (hS : SrcAt a S) (hD : (D, W.listOf its n) ∈ a) (hDS : D ≠ S) (hNI : ∀ i t, Value.int i t ∉ its.toList) (k : But D a b) : SrcAt b S := by
  obtain ⟨C, cs, ns, at_, t, n1, n2, h1, h2, hi, hp, r⟩ := hS
  refine ⟨C, cs, ns, at_, t, n1, n2, k _ h1 (Ne.symm hDS), k _ h2 ?_, hi, hp, r⟩
  intro e
  have e : C = D := e
  subst e
  have e2 := Option.some.inj ((N _ h2).1.symm.trans (N _ hD).1)
  simp only [W.listOf, Obj.mk.injEq, Data.seq.injEq] at e2
  obtain ⟨-, -, ⟨e3, -⟩, -⟩ := e2
  subst e3
  cases hi with
  | nil => simp at hp
  | cons i t' hi => exact hNI i t' (.head _)
theorem rows_ni {A : Led} : ∀ {vs : List Value} {m : PySem.Str} {xs : List Row}, DatAll A vs (rowsDat m xs) → ∀ i t, Value.int i t ∉ vs
  | _, _, [], .nil, _, _ => by simp
  | _, _, x :: xs, .cons h r, i, t => by
    intro z
    rcases List.mem_cons.mp z with z | z
    · subst z; cases h
    · exact rows_ni r i t z
end Mine
end

section
open PySem PySem.W PyProof.Rows PySem.Calls PySem.Spec
set_option maxRecDepth 100000
namespace Mine
theorem reg_Iw_0 : True := by
  (k_with "nt on" => ((fail_if_success walk_at "off_Iw"); (skip)))
  (k_with "k_mem" => ((fail_if_success walk_at "off_Iw"); first | ((show _ ∈ _); ktr_member) | exact List.Mem.head _ | (refine' List.mem_cons_of_mem _ ?_; k_mem) | (refine sub_at (by assumption) ?_; k_mem) | (refine butC_at (by assumption) (ty_ne (by decide)) ?_; k_mem) | (refine but_at (by assumption) ?_ (by assumption); k_mem) | (refine butIt_at (by assumption) (ty_ne (by decide)) (ty_ne (by decide)) ?_; k_mem)))
  (k_with "got" => (first | (refine got_dr ?_; intro x' t' n' h' tk' F' N' hx0' hxl' hS' hB' hC') | (refine got_pi ?_; intro v' n' h' tk' F' N' i9 hit' hS' hB' hC'; walk_at "picked") | (intro v' n' h' tk' F' N' hv'; walk_at "got more")))
  (k_with "callWith ref nil nil" => ((fail_if_success walk_at "off_Iw"); (k_here; k_dflt (refine' callWith_K0 ?k1 ?k2 ?_; (case k1 => exact Frag.In.keeps X (Fr.keep (by k_asm))); (case k2 => k_is); k_whole))))
  (k_with "UnrEnd" => ((fail_if_success walk_at "off_Iw"); ((rename News _ _ _ _ => lN'); k_dflt (refine unrEnd_g (by assumption) lN' (by k_mem) (.inr rfl) ?_); intro n2' hb2' hi2')))
  (k_with "Up1" => first | exact Up.sub (fun _ h9 => List.mem_cons_of_mem _ h9) | exact Up.butIt (by with_reducible assumption) | exact Up.butC (by with_reducible assumption) | exact Up.sub (by with_reducible assumption) | exact Up.keepT (by with_reducible assumption))
  (k_with "Up" => first | with_reducible assumption | exact Up.refl | (refine Up.trans ?_ (by walk_at "Up1"); walk_at "Up"))
  (k_with "TupW" => ((fail_if_success walk_at "off_Iw"); first | exact TupW.up (by with_reducible assumption) (by walk_at "Up") | exact ⟨_, _, List.mem_append_left _ (by k_mem), by repeat constructor⟩))
  (k_with "Src" => ((fail_if_success walk_at "off_Iw"); first | with_reducible assumption | (refine SrcAt.sub ?_ (fun _ h9 => List.mem_cons_of_mem _ h9); walk_at "Src") | (refine SrcAt.sub ?_ (by with_reducible assumption); walk_at "Src") | (refine SrcAt.butIt ?_ (by with_reducible assumption); walk_at "Src")))
  (k_with "TbL" => first | with_reducible assumption | (refine Tb.cons ?_; walk_at "TbL") | (refine Tb.butIt ?_ (by with_reducible assumption); walk_at "TbL") | (refine Tb.butC ?_ (by with_reducible assumption); walk_at "TbL") | (refine Tb.sub ?_ (by with_reducible assumption); walk_at "TbL"))
  (k_with "got more" => (obtain ⟨⟨x', t', hv', hx0', hxl'⟩, hS', hB', hC'⟩ := hv'; subst hv'))
  (k_with "got more" => (obtain ⟨⟨i9, hit'⟩, hS', hB', hC'⟩ := hv'; (walk_at "picked")))
  (k_with "got more" => (obtain ⟨tu', its', k', hv', hm', hl', hp', hs'⟩ := hv'; subst hv'))
  (k_with "binaryOp Add ref ref" => ((fail_if_success walk_at "off_Iw"); (k_here; (with_reducible show wpAny _ _ (binaryOp _ (Value.ref _) (Value.ref _)) _ _ _); k_dflt (refine' addW ?k1 ?k2 ?k3 ?k4 ?k5 ?k6 ?_; (case k1 => k_asm); (case k2 => k_asm); (case k3 => k_asm); (case k4 => walk_at "TupW"); (case k5 => walk_at "TupW"); (case k6 => walk_at "len"); k_whole); intro D' h' n' F' N' hs' hW'; (try dsimp only))))
  trivial
theorem hold_here {P : Prop} (h : Hold P) : P := h.out
def SgPost (h₀ : Heap) (L : Addr) (s : Shared) (S : Addr) (news : Led) (J : (PySem.Str → Option Value) → Led → Prop) (fl : Flow) (s' : Shared) : Prop :=
  ∃ h' tk' m' n', fl = .next ∧ s' = { s with heap := h', toks := tk' } ∧ Fr h₀ L h' m' ∧ News h₀ L h' n' ∧ But S news n' ∧ ButC news n' ∧ J m' n'
theorem SgPost.mk9 {h₀ h' : Heap} {L : Addr} {s : Shared} {S : Addr} {news : Led} {J : (PySem.Str → Option Value) → Led → Prop} {tk' : Nat} {m' : PySem.Str → Option Value} {n' : Led} (F : Fr h₀ L h' m') (N : News h₀ L h' n') (j : But S news n' ∧ ButC news n' ∧ J m' n') : SgPost h₀ L s S news J .next { s with heap := h', toks := tk' } := ⟨_, _, _, _, rfl, rfl, F, N, j⟩
theorem fr5x {g h : Heap} {L : Addr} {m : PySem.Str → Option Value} {k1 k2 k3 k4 k5 : PySem.Str} {v1 v2 v3 v4 v5 : Option Value} (F : Fr g L h m) (h1 : m k1 = v1) (h2 : m k2 = v2) (h3 : m k3 = v3) (h4 : m k4 = v4) (h5 : m k5 = v5) :
    Fr g L h (fun y => if y = k1 then v1 else if y = k2 then v2 else if y = k3 then v3 else if y = k4 then v4 else if y = k5 then v5 else m y) := by
  refine Fr.congr (fr4 F h1 h2 h3 h4) fun y => ?_
  by_cases e5 : y = k5
  · rw [e5, if_pos rfl, h5]
  · rw [if_neg e5]
def SgDoes (w : World) (st : Stmt) (cn : PySem.Str) (cs : Scope) (S : Addr) (I : (PySem.Str → Option Value) → Led → Prop) (J : (PySem.Str → Option Value) → (PySem.Str → Option Value) → Led → Prop) : Prop :=
  ∀ (_ : rw1 = rw1) (dp un : Nat) (gd : Option (List Code)) (a : Addr) (ccd : Value) (outer : List Env) (A₀ : Around) (base h₀ : Heap) (L : Addr) (m mg mb : PySem.Str → Option Value) (mean : ExcName → Option Value) (s : Shared) (E : Value → Shared → Prop) (news : Led),
    Below A₀ base outer h₀ → Fr h₀ L s.heap m → (KK w.params).In h₀ → News h₀ L s.heap news → Top qv (looseW qv looseV) mean mg mb h₀ → dp + 60 < recursionLimit → un + 500 < cLine → I m news →
    wpAny (model pw w) (ktrTop dp un gd cn cs L a ccd [] outer) (exec st (envX cn cs L a ccd [])) (SgPost h₀ L s S news (J m)) E s
abbrev agN {n : PySem.Str} {p : Arguments} {b : List Stmt} {sc : Scope} (_ : defParts 70 = some (n, p, b, sc)) : PySem.Str := n
abbrev agSc {n : PySem.Str} {p : Arguments} {b : List Stmt} {sc : Scope} (_ : defParts 70 = some (n, p, b, sc)) : Scope := sc
abbrev agIf {n : PySem.Str} {p : Arguments} {x0 x1 x2 y1 y2 : Stmt} {tg it : Expr} {ys oe r : List Stmt} {ps : Pos} {sc : Scope} (_ : defParts 70 = some (n, p, x0 :: x1 :: x2 :: .For tg it (y1 :: y2 :: ys) oe ps :: r, sc)) : Stmt := y2
def WayPost (S D : Addr) (W : List PySem.Str) (mo : PySem.Str) (m' : PySem.Str → Option Value) (n : Led) : Prop :=
  ∃ (pre : Pre) (wa mt : Nat), m' "source" = some (.ref S) ∧ m' "words" = some (.ref wa) ∧ m' "rows" = some (.ref D) ∧ m' "mode" = some (.str (pre.mode mo) mt) ∧ TupW n wa (W ++ pre.words) ∧ SrcAt n S ∧ Tb n
theorem reg_Iw_1 : True := by
  (k_with "len" => ((fail_if_success walk_at "off_Iw"); (simp; omega)))
  (k_with "subscriptTail Tuple cons BinOp ref int" => ((fail_if_success walk_at "off_Iw"); (k_here; k_dflt (refine' tupA_led (vs := [_, _]) ?k1 ?k2 ?k3 ?k4 ?_ ?k7; (case k1 => exact News.isTup (n := 0) (by k_asm) (List.Mem.head _)); (case k2 => simp); (case k3 => decide); (case k4 => simp); (case k7 => with_unfolding_all rfl); k_whole); intro vI hI; k_dflt (obtain rfl := Option.some.inj hI))))
  (k_with "compareOp In int ref" => ((fail_if_success walk_at "off_Iw"); (k_here; (rcases way3 x' with hw9 | hw9 | hw9); (all_goals (try subst hw9)); (all_goals (k_dflt (refine' in_12 ?k1 ?k2 ?k3 ?_; (case k1 => k_asm); (case k2 => k_mem); (case k3 => first | assumption | rfl); k_whole))))))
  (k_with "ButC" => ((fail_if_success walk_at "off_Iw"); (intro q9 hq9 hne9; repeat' (first | exact hq9 | refine butC_at (by with_reducible assumption) hne9 ?_ | refine sub_at (by with_reducible assumption) ?_ | refine List.mem_cons_of_mem _ ?_))))
  (k_with "But" => ((fail_if_success walk_at "off_Iw"); (intro q9 hq9 hne9; repeat' (first | exact hq9 | refine but_at (by with_reducible assumption) ?_ hne9 | refine sub_at (by with_reducible assumption) ?_ | refine List.mem_cons_of_mem _ ?_))))
  (k_with "does" => first | with_reducible exact draw_does _ _ _ _ _ (by walk_at "Src") (by first | with_reducible assumption | decide | omega))
  trivial
set_option maxHeartbeats 8000000 in
theorem way_does (w : World) (S D : Addr) (W : List PySem.Str) (hWl : W.length ≤ 100) (mo : PySem.Str) (hmo : isMode mo) (x' : Int) :
    SgDoes w (agIf rfl) (agN rfl) (agSc rfl) S (fun m n => ∃ wa mt t, m "source" = some (.ref S) ∧ m "words" = some (.ref wa) ∧ m "rows" = some (.ref D) ∧ m "mode" = some (.str mo mt) ∧ m "way" = some (.int x' t) ∧ TupW n wa W ∧ SrcAt n S ∧ Tb n) (fun _ m' n => WayPost S D W mo m' n) := by
  delta agIf agN agSc
  unfold SgDoes
  k_fill
  intro _ dp un gd a ccd outer A₀ base h₀ L m mg mb mean s E news B F X N T hd hu hI
  first | refine' (let e9 : PySem.Env := _; let A9 : PySem.Around := _; let qk := _; (?_ : wpAny _ A9 (exec _ e9) qk _ _)) | refine' (let e9 : PySem.Env := _; let A9 : PySem.Around := _; let qk := _; (?_ : wpAny _ A9 (execs _ e9) qk _ _))
  have hV9 : FnEnv e9 L := FnEnv.ofX rfl
  obtain ⟨wa, mt, t, m1, m2, m3, m4, m5, hW, hS, hTb⟩ := hI
  replace F := fr5x F m1 m2 m3 m4 m5
  k_steps
  · exact SgPost.mk9 (by k_asm) (by k_asm) ⟨by walk_at "But", by walk_at "ButC", .ref true, _, _, rfl, rfl, rfl, rfl, TupW.cast (TupW.up hW' (by walk_at "Up")) (by simp [Pre.words, byW]), by walk_at "Src", by walk_at "TbL"⟩
  · exact SgPost.mk9 (by k_asm) (by k_asm) ⟨by walk_at "But", by walk_at "ButC", .ref false, _, _, rfl, rfl, rfl, rfl, TupW.cast (TupW.up hW' (by walk_at "Up")) (by simp [Pre.words, byW]), by walk_at "Src", by walk_at "TbL"⟩
  · exact SgPost.mk9 (by k_asm) (by k_asm) ⟨by walk_at "But", by walk_at "ButC", .con true, _, _, rfl, rfl, rfl, rfl, TupW.cast (TupW.up hW' (by walk_at "Up")) (by simp [Pre.words, byW]), by walk_at "Src", by walk_at "TbL"⟩
  · exact SgPost.mk9 (by k_asm) (by k_asm) ⟨by walk_at "But", by walk_at "ButC", .con false, _, _, rfl, rfl, rfl, rfl, TupW.cast (TupW.up hW' (by walk_at "Up")) (by simp [Pre.words, byW]), by walk_at "Src", by walk_at "TbL"⟩
  · exact SgPost.mk9 (by k_asm) (by k_asm) ⟨by walk_at "But", by walk_at "ButC", .no, _, _, rfl, rfl, rfl, rfl, TupW.cast (TupW.up hW (by walk_at "Up")) (by simp [Pre.words, byW]), by walk_at "Src", by walk_at "TbL"⟩
end Mine
theorem off_Iw : True := by
  (k_with "off_Iw" => skip)
  trivial
end

section
open PySem PySem.W PyProof.Rows PySem.Calls PySem.Spec
set_option maxRecDepth 100000
namespace Mine
theorem reg_Ag2_0 : True := by
  k_with_none
  (k_with "room" => (first | exact room_le (by assumption) rfl rfl | ktr_room | ktr_units))
  (k_with "room0" => (first | exact room_lt (by assumption) rfl | ktr_room | (simp only [A9, depth_under_make, depth_deeper]; omega)))
  (k_with "sR" => (simp only [Int.reduceAdd, Int.reduceToNat, Nat.add_zero, Nat.zero_add, Nat.add_assoc, Nat.reduceAdd] at hR'))
  (k_with "sB" => (simp only [Int.reduceAdd, Int.reduceToNat, Nat.add_zero, Nat.zero_add, Nat.add_assoc, Nat.reduceAdd] at hb'))
  (k_with "fold" => ((fail_if_success (fail_if_success k_fold)); refine' (let qk := _; (?_ : wpAny _ _ _ qk _ _))))
  (k_with "nextQ" => (first | with_reducible refine nextQ_next ?_ | with_reducible refine nextQ_ret ?_ | with_reducible refine nextQ_brk ?_ | with_reducible refine nextQ_cont ?_))
  (k_with "outQ" => (first | with_reducible refine outQ_ret ?_ | with_reducible refine outQ_next ?_))
  (k_with "outE" => (with_reducible refine outE_go ?_))
  (k_with "resR" => (first | with_reducible refine resR_ret ?_ | with_reducible refine resR_err ?_))
  (k_with "rdM" => (first | exact rdM_365 rfl X | exact rdM_379 rfl X | exact rdM_386 rfl X | exact rdM_394 rfl X | exact rdM_401 rfl X | exact rdM_408 rfl X | exact rdM_415 rfl X | exact rdM_422 rfl X | exact rdM_437 rfl X | exact rdM_444 rfl X | exact rdM_459 rfl X | exact rdM_466 rfl X | exact rdM_473 rfl X | exact rdM_480 rfl X | exact rdM_487 rfl X | exact rdM_508 rfl X))
  (k_with "fnM" => (first | exact fnM_29 rfl X | exact fnM_36 rfl X | exact fnM_50 rfl X | exact fnM_57 rfl X | exact fnM_64 rfl X | exact fnM_71 rfl X | exact fnM_139 rfl X | exact fnM_181 rfl X | exact fnM_174 rfl X | exact fnM_188 rfl X | exact fnM_195 rfl X | exact fnM_202 rfl X | exact fnM_209 rfl X | exact fnM_216 rfl X | exact fnM_230 rfl X | exact fnM_237 rfl X | exact fnM_244 rfl X | exact fnM_251 rfl X | exact fnM_258 rfl X | exact fnM_265 rfl X | exact fnM_272 rfl X | exact fnM_279 rfl X | exact fnM_286 rfl X | exact fnM_293 rfl X | exact fnM_300 rfl X | exact fnM_337 rfl X | exact fnM_342 rfl X | exact fnM_522 rfl X | exact fnM_527 rfl X | exact fnM_547 rfl X | exact fnM_561 rfl X | exact fnM_568 rfl X | exact fnM_582 rfl X | exact fnM_610 rfl X))
  (k_with "storeName" => (k_here; with_reducible (refine' storeV ?k1 ?k2 ?hV ?hx ?_; (case hV => assumption); k_dflt ((case k1 => k_asm); (case k2 => k_asm); (case hx => exact rfl); k_whole)); refine' (let mm9 : PySem.Str → Option Value := _; fun h' (F' : Fr _ _ h' mm9) N' => ?_); (try k_sweep)))
  (k_with "spliced" => (k_here; (with_reducible show wpAny _ _ (spliced (backTo _ (starEach (_ :: _) _))) _ _ _); with_reducible (refine' argsV ?k1 ?hV ?hv ?_; (case hV => assumption); k_dflt ((case k1 => k_asm); (case hv => first | exact rfl | with_unfolding_all rfl); k_whole))))
  (k_with "eval Name" => (k_here; with_reducible (refine' nameV ?k1 ?hV ?hv ?_; (case hV => assumption); k_dflt ((case k1 => k_asm); (case hv => first | exact rfl | with_unfolding_all rfl); k_whole))))
  (k_with "eval Call" => (k_here; (with_reducible show wpAny _ _ (eval (Expr.Call (Expr.Name _ _) _ [] _) _) _ _ _); (try walk_at "fold"); with_reducible (refine' fcall ?k1 ?k2 ?k3 ?hV ?hx ?hM ?hv ?_; (case hM => walk_at "fnM"); (case hV => assumption); k_dflt ((case hx => exact rfl); (case k1 => k_asm); (case k2 => k_asm); (case k3 => k_asm); (case hv => first | exact rfl | with_unfolding_all rfl); k_whole))))
  (k_with "eval Call Attribute" => (k_here; (with_reducible show wpAny _ _ (eval (Expr.Call (Expr.Attribute (Expr.Name _ _) _ _) _ [] _) _) _ _ _); (try walk_at "fold"); with_reducible (refine' mcall ?k1 ?k2 ?k3 ?hV ?hv ?hR ?hM ?he ?_; (case hM => walk_at "rdM"); (case hV => assumption); k_dflt ((case k1 => k_asm); (case k2 => k_asm); (case k3 => k_asm); (case hv => first | exact rfl | with_unfolding_all rfl); (case hR => walk_at "RS"); (case he => exact rfl); k_whole))))
  (k_with "getMethod ref" => (k_here; k_dflt (refine' rd_method ?k1 ?k2 ?k3 ?k4 ?k5 ?k6 ?k7 ?k8 ?_; (case k1 => k_asm); (case k2 => k_asm); (case k3 => k_asm); (case k4 => walk_at "RS"); (case k5 => k_is); (case k6 => k_is); (case k7 => k_is); (case k8 => decide); k_whole)))
  (k_with "ktr_enter" => (refine' code_def ?k1 ?k2 ?k3 ?k4 ?k5 ?kA ?kF ?kK ?k6 ?k7 ?k8 ?k9 ?kB ?_ ?c2 ?c3 ?c4 ?c5; (case kA => exact rfl); (case kF => exact rfl); (case kK => assumption); (case k1 => k_asm); (case k2 => k_asm); (case k3 => k_asm); (case k4 => k_asm); (case k5 => k_asm); (case k6 => k_is); (case k7 => k_is); (case k8 => walk_at "room0"); (case k9 => (rename Binds _ _ _ _ => hbX; exact hbX _ (by k_in))); (case c5 => decide); (case kB => exact locs rfl); (case c2 => exact rfl); (case c3 => exact rfl); (case c4 => exact rfl); k_whole; intro g' L' h' FG'; refine' (let mm9 : PySem.Str → Option Value := _; fun (F' : Fr _ _ _ mm9) N' B' X' T' => ?_); (try dsimp only); refine' (let e9 : PySem.Env := _; let A9 : PySem.Around := PySem.Around.deeper _ e9; let rk := resR _ _; let qk := outQ _ _ _ _ rk; let ek := outE _ A9 e9 rk; (?_ : wpAny _ A9 (execs _ e9) qk ek _)); (have hV9 : FnEnv e9 _ := FnEnv.of (by exact rfl))))
  (k_with "k_mem" => first | ((show _ ∈ _); ktr_member) | exact List.Mem.head _ | (refine' List.mem_cons_of_mem _ ?_; k_mem))
  (k_with "RS" => first | assumption | exact RS.sub1 (by assumption) | exact RS.sub1 (RS.sub1 (by assumption)) | exact RS.sub1 (RS.sub1 (RS.sub1 (by assumption))) | exact RS.sub1 (RS.sub1 (RS.sub1 (RS.sub1 (by assumption)))) | exact RS.sub1 (RS.sub1 (RS.sub1 (RS.sub1 (RS.sub1 (by assumption))))) | exact RS.sub1 (RS.sub1 (RS.sub1 (RS.sub1 (RS.sub1 (RS.sub1 (by assumption)))))))
  (k_with "gotn" => (first | ((fail_if_success (intro v' n' h' tk' F' N' hv'; simp only [Int.reduceAdd, Int.reduceToNat, Nat.add_zero, Nat.zero_add, Nat.add_assoc, Nat.reduceAdd] at hv')); first | (with_reducible refine got_v ?_; intro h' tk' F' N') | (with_reducible refine' got_pk ?ho ?_; (case ho => with_reducible assumption); intro x' dx' ta' t1' t2' tn' e' tt' nn' h' tk' F' N' hx' hdx' hta') | (with_reducible refine got_pn ?ho ?_; (case ho => with_reducible assumption); intro h' tk' F' N') | (with_reducible refine got_ps ?hn ?_; (case hn => exact (fun h9 => no_kind h9 (by with_reducible assumption))); intro td' x' dx' ta' t1' t2' tn' e' tt' nn' h' tk' F' N' ht' hx' hdx' hta') | (with_reducible refine got_p2 (fun ht' h' tk' F' N' => ?_) (fun td' x' dx' ta' t1' t2' tn' e' tt' nn' h' tk' F' N' ht' hx' hdx' hta' => ?_)) | (with_reducible refine got_x ?_; intro t' h' tk' F' N')) | (with_reducible refine got_tk ?_; intro x' dx' ta' t1' t2' tn' e' tt' nn' n' h' tk' F' N' hR' hK' hx' hdx' hta'; (try walk_at "sR")) | (with_reducible refine got_xm ?_; intro t' n' h' tk' F' N' hR' hK'; (try walk_at "sR")) | (with_reducible refine got_vm ?_; intro n' h' tk' F' N' hR' hK'; (try walk_at "sR")) | (with_reducible refine got_skF ?hn ?_; (case hn => first | exact (fun h9 => no_bool h9 (by assumption)) | exact (fun h9 => no_tokIs (by assumption) h9 (by first | rfl | decide))); intro hb' h' tk' F' N'; (try walk_at "sB")) | (with_reducible refine got_skT ?hn ?_; (case hn => first | exact (fun h9 => no_bool (by assumption) h9) | exact (fun h9 => no_tokIs' (by assumption) h9 (by first | rfl | decide))); intro hb' n' h' tk' F' N' hR' hK'; (try walk_at "sR"); (try walk_at "sB")) | ((with_reducible refine got_sk (fun hb' n' h' tk' F' N' hR' hK' => ?_) (fun hb' h' tk' F' N' => ?_)) <;> ((try walk_at "sR"); (try walk_at "sB"))) | (refine got_xs ?_; intro t' n' h' tk' F' N' hs'; (fail_if_success (have h9 := And.left hs')); (try (have hR' := RS.sub (by walk_at "RS") hs'))) | (refine got_tp ?_; intro a' t1' t2' n' h' tk' F' N' hm' hs'; (fail_if_success (have h9 := And.left hs')); (try (have hR' := RS.sub (by walk_at "RS") hs')))))
  (k_with "got" => (first | walk_at "gotn" | (intro v' n' h' tk' F' N' hv'; simp only [Int.reduceAdd, Int.reduceToNat, Nat.add_zero, Nat.zero_add, Nat.add_assoc, Nat.reduceAdd] at hv'; revert v' n' h' tk' F' N' hv'; walk_at "gotn") | (intro v' n' h' tk' F' N' hv'; (try simp only [Int.reduceAdd, Int.reduceToNat, Nat.add_zero, Nat.zero_add, Nat.add_assoc, Nat.reduceAdd] at hv'); revert hv'; walk_at "got more")))
  (k_with "call ref" => (k_here; (with_reducible show wpAny _ _ (call (Value.ref _) _) _ _ _); (try walk_at "fold"); k_dflt (refine' Does.use0 ?H ?k1 ?k2 ?k3 ?k4 ?k5 ?k6 ?kd ?ku ?_; (case k1 => k_asm); (case k2 => k_asm); (case k3 => k_asm); (case k4 => k_asm); (case k5 => k_asm); (case H => ((try dsimp only [List.cons_append, List.nil_append]); walk_at "does")); (case k6 => first | rfl | assumption); (case kd => walk_at "room"); (case ku => walk_at "room"); k_whole); k_dflt (walk_at "got")))
  (k_with "call type:tuple" => (k_here; (with_reducible show wpAny _ _ (call (Value.type _) [Value.ref _]) _ _ _); k_dflt (refine' kde_tupleOf ?k1 ?k2 ?k3 ?k4 ?k5 ?_; (case k1 => k_asm); (case k2 => k_asm); (case k3 => exact News.isList (by k_asm) (by k_mem)); (case k4 => ((try simp only [Array.size_push]); omega)); (case k5 => exact rfl); k_whole); intro D' h' F' N' l1; (try k_lt l1)))
  (k_with "k_mem" => first | ((show _ ∈ _); ktr_member) | exact List.Mem.head _ | (refine' List.mem_cons_of_mem _ ?_; k_mem) | (refine sub_at (by assumption) ?_; k_mem) | (refine keep_at (by assumption) (by first | rfl | decide +kernel) ?_; k_mem) | (refine butC_at (by assumption) tup_nl ?_; k_mem))
  (k_with "Keep" => (intro q9 hq9 hi9; repeat' (first | exact hq9 | refine sub_at (by assumption) ?_ | refine keep_at (by assumption) hi9 ?_ | refine List.mem_cons_of_mem _ ?_ | refine but_at (by assumption) ?_ ?_ | refine ne_lt (by assumption) ?_ | refine ne_all (by first | assumption | exact And.right (by assumption)) ?_)))
  (k_with "Sub" => (intro q9 hq9; repeat' (first | exact hq9 | refine sub_at (by assumption) ?_ | refine List.mem_cons_of_mem _ ?_)))
  (k_with "exec For Name Name cons nil" => (k_here; (rename Fr _ _ _ _ => lF'); (with_unfolding_all refine' For_invVF lF' ?k1 ?k2 ?_; (case k1 => exact rfl); (case k2 => exact rfl); k_whole)))
  (k_with "exec For Name Call cons nil" => (k_here; (rename Fr _ _ _ _ => lF'); (with_unfolding_all refine' For_invVF lF' ?k1 ?k2 ?_; (case k1 => exact rfl); (case k2 => exact rfl); k_whole)))
  (k_with "pyIter ref" => ((with_reducible show wpAny _ _ (pyIter (Value.ref _)) (fun it s₂ => LoopAtV _ _ _ _ _ _ _ _ _ it s₂) _ _); k_here; (rename Fr _ _ _ _ => lF'); (rename News _ _ _ _ => lN'); (with_unfolding_all refine iter_tupHold (by rfl) lF' lN' (by k_mem) ?_)))
  (k_with "pyIter ref" => ((with_reducible show wpAny _ _ (pyIter (Value.ref _)) (fun it s₂ => LoopAtV _ _ _ _ _ _ _ _ _ it s₂) _ _); k_here; (rename IsRange _ _ _ _ _ _ _ _ => rgX); (rename Fr _ _ _ _ => lF'); (rename News _ _ _ _ => lN'); (with_unfolding_all refine iter_rangeHold (by rfl) rgX (by first | rfl | exact (Int.toNat_of_nonneg (by omega)).symm | assumption) (by first | assumption | omega) lF' lN' ?_)))
  (k_with "call builtin:list.append" => (k_here; (with_reducible show wpAny _ _ (call (Value.builtin _) [Value.ref _, _]) _ _ _); (rename News _ _ _ _ => lN'); k_dflt (refine' append_led ?k1 ?k2 ?k3 ?k4 ?_; (case k1 => k_asm); (case k2 => exact lN'); (case k3 => k_mem); (case k4 => first | exact Nat.le_of_ble_eq_true rfl | assumption | (simp only [List.size_toArray]; omega)); k_whole); intro h' n' F' N' hm' hb' ho' hc'; (try (k_dflt (have hSr' := SrcAt.app lN' (by walk_at "Src") ho' hDS hNI hb')))))
  (k_with "callWith ref nil nil" => (k_here; k_dflt (refine' callWith_K0 ?k1 ?k2 ?_; (case k1 => exact Frag.In.keeps X' (Fr.keep (by k_asm))); (case k2 => k_is); k_whole)))
  (k_with "UnrEnd" => ((rename News _ _ _ _ => lN'); k_dflt (refine unrEnd_g (by assumption) lN' (by k_mem) (.inr rfl) ?_); intro n2' hb2' hi2'))
  (k_with "k_mem" => first | ((show _ ∈ _); ktr_member) | exact List.Mem.head _ | (refine' List.mem_cons_of_mem _ ?_; k_mem) | (refine sub_at (by assumption) ?_; k_mem) | (refine butC_at (by assumption) (ty_ne (by decide)) ?_; k_mem) | (refine but_at (by assumption) ?_ hDS; k_mem) | (refine butIt_at (by assumption) (ty_ne (by decide)) (ty_ne (by decide)) ?_; k_mem))
  (k_with "Up1" => first | exact Up.sub (fun _ h9 => List.mem_cons_of_mem _ h9) | exact Up.butIt (by with_reducible assumption) | exact Up.butC (by with_reducible assumption) | exact Up.sub (by with_reducible assumption) | exact Up.keepT (by with_reducible assumption))
  (k_with "Up" => first | with_reducible assumption | exact Up.refl | (refine Up.trans ?_ (by walk_at "Up1"); walk_at "Up"))
  (k_with "TupW" => first | exact TupW.up (by with_reducible assumption) (by walk_at "Up") | exact ⟨_, _, List.mem_append_left _ (by k_mem), by repeat constructor⟩)
  (k_with "Src" => first | with_reducible assumption | (refine SrcAt.sub ?_ (fun _ h9 => List.mem_cons_of_mem _ h9); walk_at "Src") | (refine SrcAt.sub ?_ (by with_reducible assumption); walk_at "Src") | (refine SrcAt.butIt ?_ (by with_reducible assumption); walk_at "Src"))
  (k_with "TbL" => first | with_reducible assumption | (refine Tb.cons ?_; walk_at "TbL") | (refine Tb.butIt ?_ (by with_reducible assumption); walk_at "TbL") | (refine Tb.butC ?_ (by with_reducible assumption); walk_at "TbL") | (refine Tb.sub ?_ (by with_reducible assumption); walk_at "TbL"))
  (k_with "got" => (intro v' n' h' tk' F' N' hv'; walk_at "got more"))
  (k_with "got more" => (obtain ⟨⟨x', t', hv', hx0', hxl'⟩, hS', hB', hC'⟩ := hv'; subst hv'; (try dsimp only)))
  (k_with "got more" => (obtain ⟨⟨i9, hit'⟩, hS', hB', hC'⟩ := hv'; (walk_at "picked"); (try dsimp only)))
  (k_with "got more" => (obtain ⟨tu', its', k', hv', hm', hl', hp', hs'⟩ := hv'; subst hv'; (try dsimp only)))
  (k_with "binaryOp Add ref ref" => (k_here; (with_reducible show wpAny _ _ (binaryOp _ (Value.ref _) (Value.ref _)) _ _ _); k_dflt (refine' addW ?k1 ?k2 ?k3 ?k4 ?k5 ?k6 ?_; (case k1 => k_asm); (case k2 => k_asm); (case k3 => k_asm); (case k4 => walk_at "TupW"); (case k5 => walk_at "TupW"); (case k6 => walk_at "len"); k_whole); intro D' h' n' F' N' hs' hW'; (try dsimp only)))
  (k_with "assign Tuple cons ref" => (k_here; (with_reducible show wpAny _ _ (assign (Expr.Tuple _ _ _) _ (Value.ref pa')) _ _ _); k_dflt (refine' unpackN_ ?F ?N ?T ?k1 ?k2 ?k3 ?_; (case F => k_asm); (case N => k_asm); (case T => exact all_tup (by k_asm) (by k_asm) (by k_asm) hpm'); (case k1 => exact rfl); (case k2 => exact rfl); (case k3 => exact rfl); k_whole); intro h' F' N'; (try dsimp only)))
  (k_with "subscriptTail Tuple cons BinOp ref int" => (k_here; k_dflt (refine' tupA_led (vs := [_, _]) ?k1 ?k2 ?k3 ?k4 ?_ ?k7; (case k1 => exact News.isTup (n := 0) (by k_asm) (List.Mem.head _)); (case k2 => simp); (case k3 => decide); (case k4 => simp); (case k7 => with_unfolding_all rfl); k_whole); intro vI hI; k_dflt (obtain rfl := Option.some.inj hI)))
  (k_with "picked" => (obtain ⟨o', hpo', hpa'⟩ := hP' _ (List.mem_of_getElem? hit'); (replace hpa' := hpa'.up (Up.butC hC')); obtain ⟨pa', wt', pk', tv', hv', hpm', hpW', hpD'⟩ := hpa'; subst hv'))
  (k_with "items" => exact hT')
  (k_with "binaryOp Add ref ref" => (k_here; (with_reducible show wpAny _ _ (binaryOp _ (Value.ref tu') (Value.ref _)) _ _ _); k_dflt (first | ((with_reducible show wpAny _ _ (binaryOp _ (Value.ref _) (Value.ref 596)) _ _ _); refine addP (P := fun _ => True) (by k_asm) (by k_asm) (by k_asm) (List.mem_append_left _ hm') (hp'.mono fun _ _ => trivial) (others_at _) (others_pairs _) (by simp; omega) ?_) | (refine addP (P := fun o => o.isRef = true) (us := []) (by k_asm) (by k_asm) (by k_asm) (List.mem_append_left _ (by k_mem)) (hp'.up (by walk_at "Up")) (List.mem_append_left _ (by k_mem)) (fun _ h => nomatch h) (by simp; omega) ?_)); intro D' k' h' n' F' N' hs' hT' hP'; (try dsimp only)))
  (k_with "call type:range" => ((rename Fr _ _ _ _ => F8'); (rename News _ _ _ _ => N8'); (with_unfolding_all refine range1_rows F8' N8' ?_); intro h8' tk8' t18' u18' v18' rg8' F8' N8' k8'))
  (k_with "len" => first | (have hw9 := words_len xs; have ho9 := op_len o'; simp; omega) | (have hw9 := words_len xs; simp; omega))
  (k_with "compareOp In int ref" => (k_here; (rcases way3 x' with hw9 | hw9 | hw9); (all_goals (first | subst hw9 | rcases hmo with hmo | hmo <;> subst hmo)); (all_goals (k_dflt (refine' in_12 ?k1 ?k2 ?k3 ?_; (case k1 => k_asm); (case k2 => k_mem); (case k3 => first | assumption | rfl); k_whole)))))
  (k_with "execs cons If" => (k_here; (with_reducible show wpAny _ _ (execs _ _) (UnrPost _ _ _ _ _ _ _) _ _); refine hold_here ?_))
  (k_with "does" => first | with_reducible exact draw_does _ _ _ _ _ (by walk_at "Src") (by first | with_reducible assumption | decide | omega))
  (k_with "does" => first | with_reducible exact pickA_does _ _ _ _ _ _ (by walk_at "Src") (by walk_at "items") (by simp <;> omega) (by simp <;> omega))
  (k_with "does" => first | with_reducible exact refs_does _ _)
  trivial
set_option maxHeartbeats 8000000 in
theorem args_law (w : World) (news : Led) (S : Addr) (hS : SrcAt news S) (hTb : Tb news) :
    Does w 610 [.ref S] 80 700 news (ArgsPost news S) (fun _ _ => False) := by
  unfold Does
  k_fill
  intro _ dp un gd cn cs a ccd cl outer A₀ base h₀ L m mg mb mean s Q E B F X N T hk hd hu hret herr
  have hb : Binds w ob610 [.ref S] [("source", .ref S)] := .plain rfl
  refine wpAny_call ?_
  k_dflt ktr_enter
  k_steps
  rename_i D9 _ l19 _ _ _ _
  have hDS : D9 ≠ S := by
    obtain ⟨C, cs, ns, at_, t, n1, n2, h1, r⟩ := hS
    exact (Nat.ne_of_lt (allLt_at l19.2 _ h1)).symm
  refine Hold.mk (fun I hI => ?_)
  refine rangeRest_ind (Inv := ArgInv S D9 news) ?_ ?_ _ _ _ _ (Nat.zero_add _) ?_
  · intro i m₁ nw hi hInv t9 h9 tk9 F9 N9
    obtain ⟨xs, its, nD, mo, mt, wa, hlen, m1, m2, m3, m4, hW, hD, hdat, hmode, hmo, hok, hSr, hUp, hTb9⟩ := hInv
    replace F9 := fr4 F9 (fr_at m1 (by decide)) (fr_at m2 (by decide)) (fr_at m3 (by decide)) (fr_at m4 (by decide))
    have hl8 : its.size = xs.length := by
      have := PySem.W.DatAll.length hdat
      rw [rowsDat_len] at this
      simpa using this
    have hl9 : its.size ≤ sizeLine := by rw [sizeLine_eq]; omega
    have hNI := rows_ni hdat
    k_steps
    refine Hold.mk ?_
    rename Fr _ _ _ _ => F8
    rename News _ _ _ _ => N8
    have hWl := words_len xs
    have hD8 : (D9, W.listOf its nD) ∈ _ := hB' _ (List.mem_cons_of_mem _ hD) hDS
    have u8 : Up nw n' := (Up.sub fun _ h => List.mem_cons_of_mem _ h).trans (Up.butC hC')
    refine wpAny_execs_cons (wpAny_mono (way_does w S D9 (rowsWords xs) (by omega) mo hmo x' rfl _ _ _ _ _ _ _ _ _ _ _ mg mb mean _ _ _ B' F8 X' N8 T' (by ktr_room) (by ktr_units) ⟨wa, mt, _, rfl, rfl, rfl, rfl, rfl, hW.up u8, hS', by walk_at "TbL"⟩) (fun fl s' p => ?_) (fun _ _ z => z))
    obtain ⟨h7, tk7, m7, n7, rfl, rfl, F7, N7, hB7, hC7, pre, wa7, mt7, q1, q2, q3, q4, hW7, hS7, hT7⟩ := p
    clear F8 N8
    have hm7 := Pre.isMode hmo pre
    obtain ⟨mo7, e7⟩ : ∃ z, pre.mode mo = z := ⟨_, rfl⟩
    rw [e7] at hm7 q4
    replace F7 := fr4 F7 q1 q2 q3 q4
    have hD7 := hB7 _ hD8 hDS
    have u7 : Up nw n7 := u8.trans (Up.butC hC7)
    have hpl : pre.words.length ≤ 2 := by
      cases pre with
      | no => decide
      | ref b => cases b <;> decide
      | con b => cases b <;> decide
    rcases hm7 with rfl | rfl
    · k_steps
      refine arg_end (pre := pre) (o := o') (mo' := "reference") hlen hmode hok hdat hUp hmo e7 rfl rfl rfl rfl (fun _ => hpo') (by walk_at "Up") (TupW.cast (TupW.up hW' (by walk_at "Up")) ?_) (butIt_at hi2' (ty_ne (by decide)) (ty_ne (by decide)) hm') (by k_mem) (DatIn.up (Up.all (by walk_at "Up")) hpD' o'.noL) (by walk_at "Src") (by walk_at "TbL")
      simp [rowWords]
    · k_steps
      refine arg_end (pre := pre) (o := o') (mo' := "content") hlen hmode hok hdat hUp hmo e7 rfl rfl rfl rfl (fun z => absurd (z : ("content" : PySem.Str) = "reference") (by decide)) (by walk_at "Up") (TupW.cast (TupW.up hW' (by walk_at "Up")) ?_) (butIt_at hi2' (ty_ne (by decide)) (ty_ne (by decide)) hm') (by k_mem) (DatIn.up (Up.all (by walk_at "Up")) hpD' o'.noL) (by walk_at "Src") (by walk_at "TbL")
      simp [rowWords]
  · intro m2 nw2 hInv2 h2 tk2 F2 N2
    obtain ⟨xs, its, nD, mo, mt, wa, hlen, m1, m2', m3, m4, hW, hD, hdat, hmode, hmo, hok, hSr, hUp, hTb9⟩ := hInv2
    replace F2 := fr4 F2 m1 m2' m3 m4
    have hl8 : its.size = xs.length := by
      have := PySem.W.DatAll.length hdat
      rw [rowsDat_len] at this
      simpa using this
    k_steps
    exact hret _ _ _ _ (by k_asm) (by k_asm) ⟨_, wa, _, xs, _, rfl, by k_mem, hW.up (by walk_at "Up"), .tuple (List.mem_append_left _ (by k_mem)) (DatAll.up (Up.all (by walk_at "Up")) hdat (rowsDat_noL _ _)), (by rintro rfl; simp at hlen; omega), by omega, hok, by walk_at "Src", hUp.trans (by walk_at "Up"), by walk_at "TbL"⟩
  · exact ⟨[], #[], 0, "reference", _, _, rfl, rfl, rfl, rfl, rfl, ⟨[], _, List.mem_append_left _ (hC' _ (.tail _ (.head _)) (ty_ne (by decide))), .nil⟩, hB' _ (.head _) hDS, .nil, rfl, .inl rfl, trivial, hS', by walk_at "Up", by walk_at "TbL"⟩
end Mine
end

section
open PySem PySem.W PyProof.Rows PySem.Calls PySem.Spec
set_option maxRecDepth 100000
namespace Mine
theorem reg_Sr_0 : True := by
  k_with_none
  (k_with "room" => (first | exact room_le (by assumption) rfl rfl | ktr_room | ktr_units))
  (k_with "room0" => (first | exact room_lt (by assumption) rfl | ktr_room | (simp only [A9, depth_under_make, depth_deeper]; omega)))
  (k_with "sR" => (simp only [Int.reduceAdd, Int.reduceToNat, Nat.add_zero, Nat.zero_add, Nat.add_assoc, Nat.reduceAdd] at hR'))
  (k_with "sB" => (simp only [Int.reduceAdd, Int.reduceToNat, Nat.add_zero, Nat.zero_add, Nat.add_assoc, Nat.reduceAdd] at hb'))
  (k_with "fold" => ((fail_if_success (fail_if_success k_fold)); refine' (let qk := _; (?_ : wpAny _ _ _ qk _ _))))
  (k_with "nextQ" => (first | with_reducible refine nextQ_next ?_ | with_reducible refine nextQ_ret ?_ | with_reducible refine nextQ_brk ?_ | with_reducible refine nextQ_cont ?_))
  (k_with "outQ" => (first | with_reducible refine outQ_ret ?_ | with_reducible refine outQ_next ?_))
  (k_with "outE" => (with_reducible refine outE_go ?_))
  (k_with "resR" => (first | with_reducible refine resR_ret ?_ | with_reducible refine resR_err ?_))
  (k_with "rdM" => (first | exact rdM_365 rfl X | exact rdM_379 rfl X | exact rdM_386 rfl X | exact rdM_394 rfl X | exact rdM_401 rfl X | exact rdM_408 rfl X | exact rdM_415 rfl X | exact rdM_422 rfl X | exact rdM_437 rfl X | exact rdM_444 rfl X | exact rdM_459 rfl X | exact rdM_466 rfl X | exact rdM_473 rfl X | exact rdM_480 rfl X | exact rdM_487 rfl X | exact rdM_508 rfl X))
  (k_with "fnM" => (first | exact fnM_29 rfl X | exact fnM_36 rfl X | exact fnM_50 rfl X | exact fnM_57 rfl X | exact fnM_64 rfl X | exact fnM_71 rfl X | exact fnM_139 rfl X | exact fnM_181 rfl X | exact fnM_174 rfl X | exact fnM_188 rfl X | exact fnM_195 rfl X | exact fnM_202 rfl X | exact fnM_209 rfl X | exact fnM_216 rfl X | exact fnM_230 rfl X | exact fnM_237 rfl X | exact fnM_244 rfl X | exact fnM_251 rfl X | exact fnM_258 rfl X | exact fnM_265 rfl X | exact fnM_272 rfl X | exact fnM_279 rfl X | exact fnM_286 rfl X | exact fnM_293 rfl X | exact fnM_300 rfl X | exact fnM_337 rfl X | exact fnM_342 rfl X | exact fnM_522 rfl X | exact fnM_527 rfl X | exact fnM_547 rfl X | exact fnM_561 rfl X | exact fnM_568 rfl X | exact fnM_582 rfl X | exact fnM_610 rfl X))
  (k_with "newTuple" => (walk_at "nt on"; k_here; kup_bare; k_dflt (refine' kup_newTuple ?F ?N ?_ ?z; (case F => k_asm); (case N => k_asm); (case z => kmk_size)); refine' (fun D' h' => let nn9 : Led := _; fun F' (N' : News _ _ _ nn9) l1 => ?_); (try k_lt l1); (try k_sweep)))
  (k_with "newList" => (walk_at "nt on"; k_here; k_dflt (refine' newList_K ?k1 ?k2 ?_; (case k1 => k_asm); (case k2 => k_asm); k_whole); refine' (fun l' h' => let nn9 : Led := _; fun F' (N' : News _ _ _ nn9) l1 => ?_); (try k_lt l1); (try k_sweep)))
  (k_with "storeName" => (k_here; with_reducible (refine' storeV ?k1 ?k2 ?hV ?hx ?_; (case hV => assumption); k_dflt ((case k1 => k_asm); (case k2 => k_asm); (case hx => exact rfl); k_whole)); refine' (let mm9 : PySem.Str → Option Value := _; fun h' (F' : Fr _ _ h' mm9) N' => ?_); (try k_sweep)))
  (k_with "spliced" => (k_here; (with_reducible show wpAny _ _ (spliced (backTo _ (starEach (_ :: _) _))) _ _ _); with_reducible (refine' argsV ?k1 ?hV ?hv ?_; (case hV => assumption); k_dflt ((case k1 => k_asm); (case hv => first | exact rfl | with_unfolding_all rfl); k_whole))))
  (k_with "eval Name" => (k_here; with_reducible (refine' nameV ?k1 ?hV ?hv ?_; (case hV => assumption); k_dflt ((case k1 => k_asm); (case hv => first | exact rfl | with_unfolding_all rfl); k_whole))))
  (k_with "eval Call" => (k_here; (with_reducible show wpAny _ _ (eval (Expr.Call (Expr.Name _ _) _ [] _) _) _ _ _); (try walk_at "fold"); with_reducible (refine' fcall ?k1 ?k2 ?k3 ?hV ?hx ?hM ?hv ?_; (case hM => walk_at "fnM"); (case hV => assumption); k_dflt ((case hx => exact rfl); (case k1 => k_asm); (case k2 => k_asm); (case k3 => k_asm); (case hv => first | exact rfl | with_unfolding_all rfl); k_whole))))
  (k_with "eval Call Attribute" => (k_here; (with_reducible show wpAny _ _ (eval (Expr.Call (Expr.Attribute (Expr.Name _ _) _ _) _ [] _) _) _ _ _); (try walk_at "fold"); with_reducible (refine' mcall ?k1 ?k2 ?k3 ?hV ?hv ?hR ?hM ?he ?_; (case hM => walk_at "rdM"); (case hV => assumption); k_dflt ((case k1 => k_asm); (case k2 => k_asm); (case k3 => k_asm); (case hv => first | exact rfl | with_unfolding_all rfl); (case hR => walk_at "RS"); (case he => exact rfl); k_whole))))
  (k_with "nt on" => ((fail_if_success walk_at "off_Sr"); (skip)))
  (k_with "getMethod ref" => (k_here; k_dflt (refine' rd_method ?k1 ?k2 ?k3 ?k4 ?k5 ?k6 ?k7 ?k8 ?_; (case k1 => k_asm); (case k2 => k_asm); (case k3 => k_asm); (case k4 => walk_at "RS"); (case k5 => k_is); (case k6 => k_is); (case k7 => k_is); (case k8 => decide); k_whole)))
  (k_with "execs cons" => (k_here; first | (with_reducible refine execs1 ?_) | (refine execsV ?_; walk_at "fold")))
  (k_with "ktr_enter" => (refine' code_def ?k1 ?k2 ?k3 ?k4 ?k5 ?kA ?kF ?kK ?k6 ?k7 ?k8 ?k9 ?kB ?_ ?c2 ?c3 ?c4 ?c5; (case kA => exact rfl); (case kF => exact rfl); (case kK => assumption); (case k1 => k_asm); (case k2 => k_asm); (case k3 => k_asm); (case k4 => k_asm); (case k5 => k_asm); (case k6 => k_is); (case k7 => k_is); (case k8 => walk_at "room0"); (case k9 => (rename Binds _ _ _ _ => hbX; exact hbX _ (by k_in))); (case c5 => decide); (case kB => exact locs rfl); (case c2 => exact rfl); (case c3 => exact rfl); (case c4 => exact rfl); k_whole; intro g' L' h' FG'; refine' (let mm9 : PySem.Str → Option Value := _; fun (F' : Fr _ _ _ mm9) N' B' X' T' => ?_); (try dsimp only); refine' (let e9 : PySem.Env := _; let A9 : PySem.Around := PySem.Around.deeper _ e9; let rk := resR _ _; let qk := outQ _ _ _ _ rk; let ek := outE _ A9 e9 rk; (?_ : wpAny _ A9 (execs _ e9) qk ek _)); (have hV9 : FnEnv e9 _ := FnEnv.of (by exact rfl))))
  (k_with "k_mem" => first | ((show _ ∈ _); ktr_member) | exact List.Mem.head _ | (refine' List.mem_cons_of_mem _ ?_; k_mem))
  (k_with "RS" => first | assumption | exact RS.sub1 (by assumption) | exact RS.sub1 (RS.sub1 (by assumption)) | exact RS.sub1 (RS.sub1 (RS.sub1 (by assumption))) | exact RS.sub1 (RS.sub1 (RS.sub1 (RS.sub1 (by assumption)))) | exact RS.sub1 (RS.sub1 (RS.sub1 (RS.sub1 (RS.sub1 (by assumption))))) | exact RS.sub1 (RS.sub1 (RS.sub1 (RS.sub1 (RS.sub1 (RS.sub1 (by assumption)))))))
  (k_with "gotn" => (first | ((fail_if_success (intro v' n' h' tk' F' N' hv'; simp only [Int.reduceAdd, Int.reduceToNat, Nat.add_zero, Nat.zero_add, Nat.add_assoc, Nat.reduceAdd] at hv')); first | (with_reducible refine got_v ?_; intro h' tk' F' N') | (with_reducible refine' got_pk ?ho ?_; (case ho => with_reducible assumption); intro x' dx' ta' t1' t2' tn' e' tt' nn' h' tk' F' N' hx' hdx' hta') | (with_reducible refine got_pn ?ho ?_; (case ho => with_reducible assumption); intro h' tk' F' N') | (with_reducible refine got_ps ?hn ?_; (case hn => exact (fun h9 => no_kind h9 (by with_reducible assumption))); intro td' x' dx' ta' t1' t2' tn' e' tt' nn' h' tk' F' N' ht' hx' hdx' hta') | (with_reducible refine got_p2 (fun ht' h' tk' F' N' => ?_) (fun td' x' dx' ta' t1' t2' tn' e' tt' nn' h' tk' F' N' ht' hx' hdx' hta' => ?_)) | (with_reducible refine got_x ?_; intro t' h' tk' F' N')) | (with_reducible refine got_tk ?_; intro x' dx' ta' t1' t2' tn' e' tt' nn' n' h' tk' F' N' hR' hK' hx' hdx' hta'; (try walk_at "sR")) | (with_reducible refine got_xm ?_; intro t' n' h' tk' F' N' hR' hK'; (try walk_at "sR")) | (with_reducible refine got_vm ?_; intro n' h' tk' F' N' hR' hK'; (try walk_at "sR")) | (with_reducible refine got_skF ?hn ?_; (case hn => first | exact (fun h9 => no_bool h9 (by assumption)) | exact (fun h9 => no_tokIs (by assumption) h9 (by first | rfl | decide))); intro hb' h' tk' F' N'; (try walk_at "sB")) | (with_reducible refine got_skT ?hn ?_; (case hn => first | exact (fun h9 => no_bool (by assumption) h9) | exact (fun h9 => no_tokIs' (by assumption) h9 (by first | rfl | decide))); intro hb' n' h' tk' F' N' hR' hK'; (try walk_at "sR"); (try walk_at "sB")) | ((with_reducible refine got_sk (fun hb' n' h' tk' F' N' hR' hK' => ?_) (fun hb' h' tk' F' N' => ?_)) <;> ((try walk_at "sR"); (try walk_at "sB"))) | (refine got_xs ?_; intro t' n' h' tk' F' N' hs'; (fail_if_success (have h9 := And.left hs')); (try (have hR' := RS.sub (by walk_at "RS") hs'))) | (refine got_tp ?_; intro a' t1' t2' n' h' tk' F' N' hm' hs'; (fail_if_success (have h9 := And.left hs')); (try (have hR' := RS.sub (by walk_at "RS") hs')))))
  (k_with "got" => (first | walk_at "gotn" | (intro v' n' h' tk' F' N' hv'; simp only [Int.reduceAdd, Int.reduceToNat, Nat.add_zero, Nat.zero_add, Nat.add_assoc, Nat.reduceAdd] at hv'; revert v' n' h' tk' F' N' hv'; walk_at "gotn") | (intro v' n' h' tk' F' N' hv'; (try simp only [Int.reduceAdd, Int.reduceToNat, Nat.add_zero, Nat.zero_add, Nat.add_assoc, Nat.reduceAdd] at hv'); revert hv'; walk_at "got more")))
  (k_with "call ref" => (k_here; (with_reducible show wpAny _ _ (call (Value.ref _) _) _ _ _); (try walk_at "fold"); k_dflt (refine' Does.use0 ?H ?k1 ?k2 ?k3 ?k4 ?k5 ?k6 ?kd ?ku ?_; (case k1 => k_asm); (case k2 => k_asm); (case k3 => k_asm); (case k4 => k_asm); (case k5 => k_asm); (case H => ((try dsimp only [List.cons_append, List.nil_append]); walk_at "does")); (case k6 => first | rfl | assumption); (case kd => walk_at "room"); (case ku => walk_at "room"); k_whole); k_dflt (walk_at "got")))
  trivial
section
variable {prog : Program} {w : World} {A : Around} {E : Value → Shared → Prop} {s : Shared} {h₀ : Heap} {L : Addr} {m : PySem.Str → Option Value} {env : Env}
theorem CompEnd.mono {I C D : Addr} {oI oC oD : Obj} {S : Led → Prop} {r r' : Value → Led → Prop} (k : ∀ y n, r y n → r' y n) {y : Value} {s₁ s₂ : Shared} (x : LCg.CompEnd h₀ L m s₁ I oI C oC D oD S r y s₂) : LCg.CompEnd h₀ L m s₁ I oI C oC D oD S r' y s₂ := by
  obtain ⟨h', tk, n', e, F, N, o, hS, q⟩ := x
  exact ⟨h', tk, n', e, F, N, o, hS, k _ _ q⟩
theorem comp_ind {elt : Expr} {x : PySem.Str} {scope : Scope} {cl : List (PySem.Str × Addr)} {S : Led → Prop} {P : Nat → Value → Prop} {Fin : List Value → Led → Prop} {n : Nat} (Inv : Nat → List Value → Led → Prop)
    (step : ∀ i ys news, i < n → Inv i ys news → ∀ v I oI C oC D m₂ h tk (E' : Value → Shared → Prop), P i v → LCg.NsObj oC m₂ → m₂ x = some v → Fr h₀ L h m → News h₀ L h ((I, oI) :: (C, oC) :: (D, LCg.lst ys) :: news) → LCg.Off3 I C D news → ((@Ne Nat I C) ∧ (@Ne Nat I D) ∧ (@Ne Nat C D)) →
      wpAny (model prog w) A (eval elt (compEnvC scope cl C env)) (LCg.CompEnd h₀ L m { s with heap := h, toks := tk } I oI C oC D (LCg.lst ys) S (fun y news' => Inv (i + 1) (ys ++ [y]) news')) E' { s with heap := h, toks := tk })
    (fin : ∀ ys news, Inv n ys news → Fin ys news) : ∀ k i ys news, i + k = n → Inv i ys news → LCg.CompRest prog w A h₀ L m env elt x scope cl s S P Fin k i ys news
  | 0, i, ys, news, e, hI => by
    have e : i = n := e
    subst e
    exact fin ys news hI
  | k + 1, i, ys, news, e, hI => fun v I oI C oC D m₂ h tk E' h1 h2 h3 F N o ne =>
    wpAny_mono (step i ys news (by omega) hI v I oI C oC D m₂ h tk E' h1 h2 h3 F N o ne) (fun y s₂ p => CompEnd.mono (fun y n' q => comp_ind Inv step fin k (i + 1) (ys ++ [y]) n' (by omega) q) p) fun _ _ z => z
theorem compSrc_hold {elt : Expr} {x : PySem.Str} {scope : Scope} {cl : List (PySem.Str × Addr)} {Fin : Shared → List Value → Led → Prop} {ax : Addr} {its : Array Value} {k : Nat} {news : Led} {s₁ : Shared}
    (hh : A.handled = none) (F : Fr h₀ L s₁.heap m) (N : News h₀ L s₁.heap news) (hm : (ax, W.listOf its k) ∈ news) (hsz : its.size ≤ sizeLine)
    (h : Hold (∀ g, LCg.CompRest prog w A h₀ L m env elt x scope cl { s₁ with heap := g } (LCg.SrcAt h₀ ax its) (fun i v => its[i]? = some v) (Fin { s₁ with heap := g }) its.size 0 [] news)) :
    LCg.CompSrc prog w A h₀ L m env elt x scope cl Fin (.ref ax) s₁ := LCg.CompSrc.ledger hh F N hm hsz h.out
end
theorem reg_Sr_1 : True := by
  (k_with "exec Assign cons ListComp" => ((fail_if_success walk_at "off_Sr"); (k_here; k_dflt (refine LCg.Assign_ListComp_U (F₀ := by k_asm) (by rfl) (by with_unfolding_all rfl) (by rfl) (by decide) (by rfl) (by decide) (by rfl) (by rfl) (by rfl) ?_))))
  (k_with "CompSrc" => ((fail_if_success walk_at "off_Sr"); (k_here; k_dflt (refine compSrc_hold (by rfl) (by k_asm) (by k_asm) (List.Mem.head _) (by rw [sizeLine_eq]; simp; omega) ?_))))
  trivial
set_option maxHeartbeats 8000000 in
theorem source_does (w : World) (news : Led) (C : Addr) (vs : List Value) (is : List Int) (hI : IntsAre vs is) (hz : is.length ≤ 63) :
    ∀ (_ : rw1 = rw1) (dp un : Nat) (gd : Option (List Code)) (cn : PySem.Str) (cs : Scope) (a : Addr) (ccd : Value) (cl : List (PySem.Str × Addr)) (outer : List Env) (A₀ : Around) (base h₀ : Heap) (L : Addr) (m mg mb : PySem.Str → Option Value) (mean : ExcName → Option Value) (s : Shared) (Q E : Value → Shared → Prop),
    Below A₀ base outer h₀ → Fr h₀ L s.heap m → (KK w.params).In h₀ → News h₀ L s.heap news → Top qv (looseW qv looseV) mean mg mb h₀ → cs.kind = .function → dp + 60 < recursionLimit → un + 700 < cLine → h₀.IsList C vs.toArray →
    (∀ v news' h' tk', Fr h₀ L h' m → News h₀ L h' news' → (∃ S, v = .ref S ∧ SrcAt news' S ∧ ∀ q ∈ news, q ∈ news') → Q v { s with heap := h', toks := tk' }) →
    wpAny (model pw w) (ktrTop dp un gd cn cs L a ccd cl outer) (call (.ref 527) [.ref C]) Q E s := by
  k_fill
  intro _ dp un gd cn cs a ccd cl outer A₀ base h₀ L m mg mb mean s Q E B F X N T hk hd hu hL hret
  have hb : Binds w ob527 [.ref C] [("script", .ref C)] := .plain rfl
  refine wpAny_call ?_
  k_dflt ktr_enter
  have hL' : g'.IsList C vs.toArray := stays_list FG'.keep hL
  k_steps
  rename_i D1 ws1 h1 F1 N1 l1 hI1 hC1 hL1
  have hl1 : ws1.length = (is.take 60).length := hI1.length
  refine compSrc_hold (by rfl) F1 N1 (.head _) (by rw [sizeLine_eq]; simp; omega) ?_
  refine Hold.mk fun gg => ?_
  have hz1 : ws1.toArray.size = min 60 is.length := by simp; omega
  refine comp_ind (Inv := fun i ys nw => (∃ js, IntsAre ys js) ∧ ys.length = i ∧ nw = (D1, W.listOf ws1.toArray 0) :: news) ?_ ?_ _ _ _ _ (Nat.zero_add _) ⟨⟨[], .nil⟩, rfl, rfl⟩
  · intro i ys nw hi hInv v I oI C9 oC D m₂ h tk E' hP hC hx F9 N9 off ne
    obtain ⟨⟨js, hj⟩, hl, rfl⟩ := hInv
    obtain ⟨t9, rfl⟩ := hI1.int_at i v (by simpa using hP)
    k_steps
    exact LCg.CompEnd.intro F9 N9 _ (fun _ h => h) off (.inr ⟨_, .head _, rfl, _, rfl⟩) ⟨⟨js ++ [_], hj.append (.cons _ _ .nil)⟩, by simp [hl], rfl⟩
  · intro ys nw hInv
    obtain ⟨⟨js, hj⟩, hl, rfl⟩ := hInv
    k_steps
    · refine hret _ _ _ _ (by k_asm) (by k_asm) ⟨_, rfl, ⟨_, [_], [_], 0, _, _, _, .head _, .tail _ (.head _), .cons _ _ .nil, by simp, by simp, by decide⟩, fun q hq => .tail _ (.tail _ (.tail _ (.tail _ hq)))⟩
    · rename ys.isEmpty = false => he
      refine hret _ _ _ _ (by k_asm) (by k_asm) ⟨_, rfl, ⟨_, ys, js, 0, _, _, _, .head _, .tail _ (.head _), hj, ?_, by omega, by decide⟩, fun q hq => .tail _ (.tail _ (.tail _ hq))⟩
      cases ys with
      | nil => cases he
      | cons y ys => simp
end Mine
theorem off_Sr : True := by
  (k_with "off_Sr" => skip)
  trivial
end

section
open PySem PySem.W PyProof.Rows PySem.Calls PySem.Spec
set_option maxRecDepth 100000
namespace Mine
theorem toks_word (o : Op) : o.words.map tokOf = o.toks := by cases o <;> decide +kernel
theorem toks_by (b : Bool) : (byW b).map tokOf = byT b := by cases b <;> decide +kernel
theorem toks_pre (p : Pre) : p.words.map tokOf = p.toks := by
  cases p with
  | no => rfl
  | ref b => rw [Pre.words, Pre.toks, List.map_append, toks_by]; exact congrArg (byT b ++ ·) (by decide +kernel)
  | con b => rw [Pre.words, Pre.toks, List.map_append, toks_by]; exact congrArg (byT b ++ ·) (by decide +kernel)
theorem toks_rows : ∀ xs, (rowsWords xs).map tokOf = rowsToks xs
  | [] => rfl
  | x :: xs => by simp only [rowsWords, rowsToks, rowWords, rowToks, List.map_append, toks_pre, toks_word, toks_rows xs]
def vocB (x : PySem.Str) : Bool := decide (0 < x.length) && decide (x.length ≤ 100) && (!isSig x || (!isFig (Txt.item x 0) && !(Txt.item x 0 == ("!" : PySem.Str)))) && decide ((tokOf x).2.length ≤ 100)
theorem voc_of {x : PySem.Str} (h : vocB x = true) : Voc x ∧ (tokOf x).2.length ≤ 100 := by
  unfold vocB at h
  simp only [Bool.and_eq_true, Bool.or_eq_true, decide_eq_true_eq, Bool.not_eq_true'] at h
  refine ⟨⟨h.1.1.1, h.1.1.2, fun hs => ?_⟩, h.2⟩
  rcases h.1.2 with k | k
  · rw [hs] at k; cases k
  · exact k
def vocs (ws : List PySem.Str) : Bool := ws.all vocB
theorem vocs_app {a b : List PySem.Str} (h : vocs a = true) (k : vocs b = true) : vocs (a ++ b) = true := by
  unfold vocs at *
  rw [List.all_append, h, k]; rfl
theorem vocs_op (o : Op) : vocs o.words = true := by cases o <;> decide +kernel
theorem vocs_by (b : Bool) : vocs (byW b) = true := by cases b <;> decide +kernel
theorem vocs_pre (p : Pre) : vocs p.words = true := by
  cases p with
  | no => rfl
  | ref b => exact vocs_app (vocs_by b) (by decide +kernel)
  | con b => exact vocs_app (vocs_by b) (by decide +kernel)
theorem vocs_rows : ∀ xs, vocs (rowsWords xs) = true
  | [] => rfl
  | x :: xs => vocs_app (vocs_app (vocs_pre _) (vocs_op _)) (vocs_rows xs)
theorem vocs_voc {ws : List PySem.Str} (h : vocs ws = true) : ∀ x ∈ ws, Voc x := fun x hx => (voc_of (List.all_eq_true.mp h x hx)).1
theorem vocs_short {ws : List PySem.Str} (h : vocs ws = true) : Short (toksOf ws) := by
  intro i td hi
  unfold toksOf at hi
  rw [List.getElem?_map] at hi
  obtain ⟨x, hx, rfl⟩ := Option.map_eq_some_iff.mp hi
  rcases List.mem_append.mp (List.mem_of_getElem? hx) with hx | hx
  · exact (voc_of (List.all_eq_true.mp h x hx)).2
  · obtain rfl := List.mem_singleton.mp hx
    decide +kernel
/-! places -/
theorem seg_of {tds a b c : Tds} {p : Nat} (e : tds = a ++ (b ++ c)) (hp : a.length = p) : Seg tds p b := by
  subst e
  subst hp
  intro i td hi
  have hl := (List.getElem?_eq_some_iff.mp hi).1
  rw [List.getElem?_append_right (by omega), Nat.add_sub_cancel_left, List.getElem?_append_left hl]
  exact hi
theorem at_of {tds a c : Tds} {td : PySem.Str × PySem.Str} {p : Nat} (e : tds = a ++ td :: c) (hp : a.length = p) : tds[p]? = some td := by
  subst e
  subst hp
  rw [List.getElem?_append_right (by omega), Nat.sub_self]
  rfl
theorem tokIs_at (a b : Tds) (p i : Nat) (k x : PySem.Str) : tokIs (a ++ b) (a.length + p + i) k x = tokIs b (p + i) k x := by
  unfold tokIs
  rw [List.getElem?_append_right (by omega)]
  have e : a.length + p + i - a.length = p + i := by omega
  rw [e]
/-! what the phrases are -/
def openB (tds : Tds) (p : Nat) (kk : PySem.Str) : Option Nat :=
  if kk = "fault" then
    (if tokIs tds (p + 0) "word" "ON" then (if tokIs tds (p + 1) "word" "OVERFLOW" then some 2 else if tokIs tds (p + 1) "word" "EXCEPTION" then some 2 else none)
     else if tokIs tds (p + 0) "word" "OVERFLOW" then some 1 else if tokIs tds (p + 0) "word" "EXCEPTION" then some 1 else some 0)
  else if kk = "not fault" then
    (if tokIs tds (p + 0) "word" "NOT" then (if tokIs tds (p + 1) "word" "ON" then (if tokIs tds (p + 2) "word" "EXCEPTION" then some 3 else none) else if tokIs tds (p + 1) "word" "EXCEPTION" then some 2 else none) else some 0)
  else none
theorem andL {a b c : Prop} (f : a → b) (h : a ∧ c) : b ∧ c := ⟨f h.1, h.2⟩
theorem openB_sound {a b : Tds} {p n : Nat} {kk : PySem.Str} (h : openB b p kk = some n) : OpenK (a ++ b) (a.length + p) kk n ∧ n ≤ 3 := by
  have e0 : ∀ k x, tokIs (a ++ b) (a.length + p) k x = tokIs b (p + 0) k x := fun k x => tokIs_at a b p 0 k x
  unfold openB at h
  unfold OpenK OpenF OpenN
  simp only [e0, tokIs_at]
  by_cases k1 : kk = "fault"
  · rw [if_pos k1] at h
    refine andL (fun q => .inl ⟨k1, q⟩) ?_
    cases c0 : tokIs b (p + 0) "word" "ON"
    · rw [c0] at h
      cases c1 : tokIs b (p + 0) "word" "OVERFLOW"
      · rw [c1] at h
        cases c2 : tokIs b (p + 0) "word" "EXCEPTION"
        · rw [c2] at h
          obtain rfl : 0 = n := Option.some.inj h
          exact ⟨.inl ⟨rfl, rfl, rfl, rfl⟩, by decide⟩
        · rw [c2] at h
          obtain rfl : 1 = n := Option.some.inj h
          exact ⟨.inr (.inr (.inl ⟨rfl, rfl, rfl, rfl⟩)), by decide⟩
      · rw [c1] at h
        obtain rfl : 1 = n := Option.some.inj h
        exact ⟨.inr (.inl ⟨rfl, rfl, rfl⟩), by decide⟩
    · rw [c0] at h
      cases c1 : tokIs b (p + 1) "word" "OVERFLOW"
      · rw [c1] at h
        cases c2 : tokIs b (p + 1) "word" "EXCEPTION"
        · rw [c2] at h
          cases h
        · rw [c2] at h
          obtain rfl : 2 = n := Option.some.inj h
          exact ⟨.inr (.inr (.inr (.inr ⟨rfl, rfl, rfl, rfl⟩))), by decide⟩
      · rw [c1] at h
        obtain rfl : 2 = n := Option.some.inj h
        exact ⟨.inr (.inr (.inr (.inl ⟨rfl, rfl, rfl⟩))), by decide⟩
  · rw [if_neg k1] at h
    by_cases k2 : kk = "not fault"
    · rw [if_pos k2] at h
      refine andL (fun q => .inr ⟨k2, q⟩) ?_
      cases c0 : tokIs b (p + 0) "word" "NOT"
      · rw [c0] at h
        obtain rfl : 0 = n := Option.some.inj h
        exact ⟨.inl ⟨rfl, rfl⟩, by decide⟩
      · rw [c0] at h
        cases c1 : tokIs b (p + 1) "word" "ON"
        · rw [c1] at h
          cases c2 : tokIs b (p + 1) "word" "EXCEPTION"
          · rw [c2] at h
            cases h
          · rw [c2] at h
            obtain rfl : 2 = n := Option.some.inj h
            exact ⟨.inr (.inl ⟨rfl, rfl, rfl, rfl⟩), by decide⟩
        · rw [c1] at h
          cases c2 : tokIs b (p + 2) "word" "EXCEPTION"
          · rw [c2] at h
            cases h
          · rw [c2] at h
            obtain rfl : 3 = n := Option.some.inj h
            exact ⟨.inr (.inr ⟨rfl, rfl, rfl, rfl⟩), by decide⟩
    · rw [if_neg k2] at h
      cases h
def phsD (ks : List PySem.Str) : List Dat := ks.map fun kk => .tuple [.str kk, bodyD]
def brGo (tds : Tds) : List PySem.Str → Nat → List PySem.Str → Option ((Nat × List PySem.Str) ⊕ Nat)
  | [], p, done => some (.inl (p, done))
  | kk :: ks, p, done => match openB tds p kk with
    | none => none
    | some n => if n = 0 then brGo tds ks p done else if p + n < tds.length then (if tokIs tds (p + n) "word" "CONTINUE" then (if tokIs tds (p + n + 1) "word" "CONTINUE" then none else brGo tds ks (p + n + 1) (done ++ [kk])) else some (.inr (p + n))) else none
def resD (m : Nat) : (Nat × List PySem.Str) ⊕ Nat → Res
  | .inl (p, ks) => .inl (m + p, phsD ks)
  | .inr i => .inr (m + i)
theorem brGo_sound (a b : Tds) : ∀ (ks : List PySem.Str) (p : Nat) (done : List PySem.Str) (r : (Nat × List PySem.Str) ⊕ Nat), brGo b ks p done = some r → BrRun (a ++ b) ks (a.length + p) (phsD done) (resD a.length r)
  | [], p, done, r, h => by
    obtain rfl := Option.some.inj h
    exact .nil
  | kk :: ks, p, done, r, h => by
    unfold brGo at h
    split at h
    · cases h
    · rename_i n hn
      obtain ⟨ho, h3⟩ := openB_sound (a := a) hn
      by_cases h0 : n = 0
      · subst h0
        rw [if_pos rfl] at h
        refine .ok (n := 0) ⟨ho, .inl ⟨rfl, rfl⟩⟩ ?_
        have := brGo_sound a b ks p done r h
        simpa [phD] using this
      · rw [if_neg h0] at h
        split at h
        · rename_i hlt
          have e1 : tokIs (a ++ b) (a.length + p + n) "word" "CONTINUE" = tokIs b (p + n) "word" "CONTINUE" := tokIs_at a b p n _ _
          have e2 : tokIs (a ++ b) (a.length + p + n + 1) "word" "CONTINUE" = tokIs b (p + n + 1) "word" "CONTINUE" := tokIs_at a b p (n + 1) _ _
          have hl : a.length + p + n < (a ++ b).length := by rw [List.length_append]; omega
          split at h
          · rename_i c1
            split at h
            · cases h
            · rename_i c2
              refine .ok (n := n) ⟨ho, .inr ⟨by omega, by omega, hl, ⟨e1.trans c1, e2.trans (by simpa using c2)⟩, rfl⟩⟩ ?_
              have := brGo_sound a b ks (p + n + 1) (done ++ [kk]) r h
              rw [phD, if_neg h0]
              simpa [phsD, Nat.add_assoc] using this
          · rename_i c1
            obtain rfl := Option.some.inj h
            exact .bad ⟨n, ho, by omega, by omega, hl, e1.trans (by simpa using c1), (Nat.add_assoc _ _ _).symm⟩
        · cases h
/-! what stops a list of operands -/
def stopToks : List (PySem.Str × PySem.Str) := [tk_ "word" "ON", tk_ "word" "OVERFLOW", tk_ "word" "EXCEPTION", tk_ "word" "NOT", tk_ "word" "END-CALL", tk_ "sign" "."]
theorem begins_dot {tds : Tds} {p : Nat} (h0 : tds[p]? = some (tk_ "sign" ".")) : beginsAt tds p = false := by
  unfold beginsAt
  have e1 : isNum tds p = false := by
    unfold isNum
    rw [tok_of h0 (show _ = false by decide +kernel), tok_of h0 (show _ = false by decide +kernel), kind_of h0 (show _ = false by decide +kernel)]
    rfl
  have e2 : nameAt tds p = false := by unfold nameAt; rw [h0]; rfl
  have e3 : figAt tds p = false := by unfold figAt; rw [h0]; rfl
  rw [e1, kind_of (kk := "literal") h0 (show _ = false by decide +kernel), e2, e3]
  rfl
theorem stop_of {tds : Tds} {p : Nat} {td : PySem.Str × PySem.Str} (h0 : tds[p]? = some td) (h : td ∈ stopToks) : StopAt tds p ∧ tokIs tds p "word" "USING" = false := by
  simp only [stopToks, List.mem_cons, List.not_mem_nil, or_false] at h
  rcases h with rfl | rfl | rfl | rfl | rfl | rfl
  · exact ⟨⟨⟨tok_of h0 (by decide +kernel), tok_of h0 (by decide +kernel), tok_of h0 (by decide +kernel)⟩, begins_no h0 res_ON fig_ON, ⟨tok_of h0 (by decide +kernel), tok_of h0 (by decide +kernel), tok_of h0 (by decide +kernel)⟩⟩, tok_of h0 (by decide +kernel)⟩
  · exact ⟨⟨⟨tok_of h0 (by decide +kernel), tok_of h0 (by decide +kernel), tok_of h0 (by decide +kernel)⟩, begins_no h0 res_OVERFLOW fig_OVERFLOW, ⟨tok_of h0 (by decide +kernel), tok_of h0 (by decide +kernel), tok_of h0 (by decide +kernel)⟩⟩, tok_of h0 (by decide +kernel)⟩
  · exact ⟨⟨⟨tok_of h0 (by decide +kernel), tok_of h0 (by decide +kernel), tok_of h0 (by decide +kernel)⟩, begins_no h0 res_EXCEPTION fig_EXCEPTION, ⟨tok_of h0 (by decide +kernel), tok_of h0 (by decide +kernel), tok_of h0 (by decide +kernel)⟩⟩, tok_of h0 (by decide +kernel)⟩
  · exact ⟨⟨⟨tok_of h0 (by decide +kernel), tok_of h0 (by decide +kernel), tok_of h0 (by decide +kernel)⟩, begins_no h0 res_NOT fig_NOT, ⟨tok_of h0 (by decide +kernel), tok_of h0 (by decide +kernel), tok_of h0 (by decide +kernel)⟩⟩, tok_of h0 (by decide +kernel)⟩
  · exact ⟨⟨⟨tok_of h0 (by decide +kernel), tok_of h0 (by decide +kernel), tok_of h0 (by decide +kernel)⟩, begins_no h0 res_END_CALL fig_END_CALL, ⟨tok_of h0 (by decide +kernel), tok_of h0 (by decide +kernel), tok_of h0 (by decide +kernel)⟩⟩, tok_of h0 (by decide +kernel)⟩
  · exact ⟨⟨⟨tok_of h0 (by decide +kernel), tok_of h0 (by decide +kernel), tok_of h0 (by decide +kernel)⟩, begins_dot h0, ⟨tok_of h0 (by decide +kernel), tok_of h0 (by decide +kernel), tok_of h0 (by decide +kernel)⟩⟩, tok_of h0 (by decide +kernel)⟩
/-! the words of the law -/
def headW (o : Op) : List PySem.Str := ("CALL" : PySem.Str) :: o.words
def argsW (xs : List Row) : List PySem.Str := match xs with
  | [] => []
  | x :: xs => "USING" :: rowsWords (x :: xs)
def sufOf (T : List PySem.Str) : Tds := (T ++ [("." : PySem.Str)]).map tokOf
def tailChk (T : List PySem.Str) : Option (List PySem.Str ⊕ Nat) := match brGo (sufOf T) [("fault" : PySem.Str), ("not fault" : PySem.Str)] 0 [] with
  | some (.inl (q, ks)) => if endAt (sufOf T) q = T.length then some (.inl ks) else none
  | some (.inr i) => some (.inr i)
  | none => none
def stopB (T : List PySem.Str) : Bool := match (sufOf T)[0]? with
  | some td => stopToks.any fun x => x.1 == td.1 && x.2 == td.2
  | none => false
def tailOk (T : List PySem.Str) (r : List PySem.Str ⊕ Nat) : Prop := vocs T = true ∧ stopB T = true ∧ tailChk T = some r
def onW (b : Bool) : List PySem.Str := if b then [("ON" : PySem.Str)] else []
def excW (b : Bool) : List PySem.Str := if b then [("OVERFLOW" : PySem.Str)] else [("EXCEPTION" : PySem.Str)]
def fW : Option (Bool × Bool) → List PySem.Str
  | none => []
  | some (on, ov) => onW on ++ excW ov ++ [("CONTINUE" : PySem.Str)]
def nW : Option Bool → List PySem.Str
  | none => []
  | some on => [("NOT" : PySem.Str)] ++ onW on ++ [("EXCEPTION" : PySem.Str)] ++ [("CONTINUE" : PySem.Str)]
def endW (b : Bool) : List PySem.Str := if b then [("END-CALL" : PySem.Str)] else []
def fK : Option (Bool × Bool) → List PySem.Str
  | none => []
  | some _ => [("fault" : PySem.Str)]
def nK : Option Bool → List PySem.Str
  | none => []
  | some _ => [("not fault" : PySem.Str)]
set_option maxHeartbeats 4000000 in
theorem tail_f (on ov : Bool) : tailOk (onW on ++ excW ov ++ [("END-CALL" : PySem.Str)]) (.inr (onW on ++ excW ov).length) := by
  cases on <;> cases ov <;> exact ⟨by decide +kernel, by decide +kernel, by decide +kernel⟩
set_option maxHeartbeats 4000000 in
theorem tail_n (f : Option (Bool × Bool)) (on : Bool) : tailOk (fW f ++ ([("NOT" : PySem.Str)] ++ onW on ++ [("EXCEPTION" : PySem.Str)]) ++ [("END-CALL" : PySem.Str)]) (.inr (fW f ++ ([("NOT" : PySem.Str)] ++ onW on ++ [("EXCEPTION" : PySem.Str)])).length) := by
  rcases f with _ | ⟨on1, ov⟩
  · cases on <;> exact ⟨by decide +kernel, by decide +kernel, by decide +kernel⟩
  · cases on1 <;> cases ov <;> cases on <;> exact ⟨by decide +kernel, by decide +kernel, by decide +kernel⟩
set_option maxHeartbeats 4000000 in
theorem tail_e (f : Option (Bool × Bool)) (n : Option Bool) (e : Bool) : tailOk (fW f ++ nW n ++ endW e) (.inl (fK f ++ nK n)) := by
  rcases f with _ | ⟨on1, ov⟩
  · rcases n with _ | on <;> (try cases on) <;> cases e <;> exact ⟨by decide +kernel, by decide +kernel, by decide +kernel⟩
  · rcases n with _ | on <;> (try cases on) <;> cases on1 <;> cases ov <;> cases e <;> exact ⟨by decide +kernel, by decide +kernel, by decide +kernel⟩
theorem stopB_at {T : List PySem.Str} (h : stopB T = true) : ∃ td c, sufOf T = td :: c ∧ td ∈ stopToks := by
  unfold stopB at h
  cases e : sufOf T with
  | nil => rw [e] at h; cases h
  | cons td c =>
    rw [e] at h
    obtain ⟨x, hx, hq⟩ := List.any_eq_true.mp h
    rw [Bool.and_eq_true] at hq
    have : x = td := Prod.ext (eq_of_beq hq.1) (eq_of_beq hq.2)
    exact ⟨td, c, rfl, this ▸ hx⟩
theorem head_len (o : Op) : (headW o).length = 1 + o.toks.length := by
  rw [← toks_word o, List.length_map, headW, List.length_cons, Nat.add_comm]
theorem toks_all (o : Op) (R : List PySem.Str) : toksOf (headW o ++ R) = tk_ "word" "CALL" :: (o.toks ++ sufOf R) := by
  have e : tokOf ("CALL" : PySem.Str) = tk_ "word" "CALL" := by decide +kernel
  unfold toksOf headW sufOf
  simp only [List.cons_append, List.map_cons, List.map_append, e, toks_word, List.append_assoc]
theorem suf_cons (x : PySem.Str) (R : List PySem.Str) : sufOf (x :: R) = tokOf x :: sufOf R := rfl
theorem suf_rows (xs : List Row) (T : List PySem.Str) : sufOf (rowsWords xs ++ T) = rowsToks xs ++ sufOf T := by
  unfold sufOf
  rw [List.append_assoc, List.map_append, toks_rows]
theorem endAt_at (a b : Tds) (q : Nat) : endAt (a ++ b) (a.length + q) = a.length + endAt b q := by
  unfold endAt
  have := tokIs_at a b q 0 "word" "END-CALL"
  rw [Nat.add_zero, Nat.add_zero] at this
  rw [this]
  split <;> omega
def outOf (o : Op) (xs : List Row) (W : List PySem.Str) (k : Nat) : List PySem.Str ⊕ Nat → Out
  | .inl ks => .inl (.tuple [.str "call", o.dat, .tuple (rowsDat "reference" xs), .tuple (phsD ks)], W.length)
  | .inr i => .inr (k + i)
theorem vocs_head (o : Op) : vocs (headW o) = true := vocs_app (a := [("CALL" : PySem.Str)]) (by decide +kernel) (vocs_op o)
theorem vocs_args (xs : List Row) : vocs (argsW xs) = true := by
  cases xs with
  | nil => rfl
  | cons x xs => exact vocs_app (a := [("USING" : PySem.Str)]) (by decide +kernel) (vocs_rows (x :: xs))
theorem tail_out {a : Tds} {T : List PySem.Str} {r : List PySem.Str ⊕ Nat} (h : tailChk T = some r) : ∃ rb : Res, BrRun (a ++ sufOf T) [("fault" : PySem.Str), ("not fault" : PySem.Str)] a.length [] rb ∧ (∀ q bs, rb = .inl (q, bs) → ∃ ks, r = .inl ks ∧ bs = phsD ks ∧ endAt (a ++ sufOf T) q = a.length + T.length) ∧ (∀ i, rb = .inr i → ∃ j, r = .inr j ∧ i = a.length + j) := by
  unfold tailChk at h
  split at h
  · rename_i q ks hg
    split at h
    · rename_i he
      obtain rfl := Option.some.inj h
      refine ⟨_, brGo_sound a (sufOf T) _ 0 [] _ hg, fun q' bs e => ?_, fun i e => ?_⟩
      · cases e
        exact ⟨ks, rfl, rfl, by rw [endAt_at, he]⟩
      · cases e
    · cases h
  · rename_i i hg
    obtain rfl := Option.some.inj h
    refine ⟨_, brGo_sound a (sufOf T) _ 0 [] _ hg, fun q' bs e => ?_, fun j e => ?_⟩
    · cases e
    · cases e
      exact ⟨i, rfl, rfl⟩
  · cases h
theorem hears_tail (w : World) (o : Op) (xs : List Row) (hz : xs.length ≤ 4) (hok : rowsOk "reference" xs) (T : List PySem.Str) (r : List PySem.Str ⊕ Nat) (h : tailOk T r) : Hears w (headW o ++ argsW xs ++ T) (outOf o xs (headW o ++ argsW xs ++ T) (headW o ++ argsW xs).length r) := by
  obtain ⟨hv, hs, hc⟩ := h
  obtain ⟨td, c, hsuf, hst⟩ := stopB_at hs
  have hV : vocs (headW o ++ argsW xs ++ T) = true := vocs_app (vocs_app (vocs_head o) (vocs_args xs)) hv
  have hSh := vocs_short hV
  cases xs with
  | nil =>
    have eW : headW o ++ argsW [] ++ T = headW o ++ T := by simp [argsW]
    rw [eW] at hSh ⊢
    have eT := toks_all o T
    have eA : toksOf (headW o ++ T) = (tk_ "word" "CALL" :: o.toks) ++ sufOf T := eT
    have hl : (tk_ "word" "CALL" :: o.toks).length = 1 + o.toks.length := by rw [List.length_cons, Nat.add_comm]
    obtain ⟨rb, hrun, h1, h2⟩ := tail_out (a := tk_ "word" "CALL" :: o.toks) hc
    rw [hl] at hrun h1 h2
    have h0 : (toksOf (headW o ++ T))[1 + o.toks.length]? = some td := at_of (a := tk_ "word" "CALL" :: o.toks) (c := c) (by rw [eA, hsuf]) hl
    obtain ⟨⟨hN, _, _⟩, hU⟩ := stop_of h0 hst
    have hc0 : (toksOf (headW o ++ T))[0]? = some (tk_ "word" "CALL") := by rw [eT]; rfl
    rw [← eA] at hrun h1
    refine hears_none hSh o (tok_of hc0 (by decide +kernel)) (seg_of (a := [tk_ "word" "CALL"]) eT rfl) _ rfl hN hU rb hrun _ (fun q bs e => ?_) (fun i e => ?_)
    · obtain ⟨ks, rfl, rfl, he⟩ := h1 q bs e
      rw [he]
      simp only [outOf, rowsDat, List.length_append, head_len]
    · obtain ⟨j, rfl, rfl⟩ := h2 i e
      simp only [outOf, argsW, List.append_nil, head_len]
  | cons x ys =>
    have eW : headW o ++ argsW (x :: ys) ++ T = headW o ++ (("USING" : PySem.Str) :: (rowsWords (x :: ys) ++ T)) := by simp [argsW]
    have eT := toks_all o (("USING" : PySem.Str) :: (rowsWords (x :: ys) ++ T))
    rw [← eW] at eT
    have eU : tokOf ("USING" : PySem.Str) = tk_ "word" "USING" := by decide +kernel
    rw [suf_cons, suf_rows, eU] at eT
    generalize hWW : headW o ++ argsW (x :: ys) ++ T = WW at *
    have eL : WW.length = 1 + o.toks.length + 1 + (rowsToks (x :: ys)).length + T.length := by
      rw [← hWW, List.length_append, List.length_append, head_len, ← toks_rows, List.length_map]
      simp only [argsW, List.length_cons]
      omega
    have eK : (headW o ++ argsW (x :: ys)).length = 1 + o.toks.length + 1 + (rowsToks (x :: ys)).length := by
      rw [List.length_append, head_len, ← toks_rows, List.length_map]
      simp only [argsW, List.length_cons]
      omega
    have eB : toksOf WW = (tk_ "word" "CALL" :: o.toks ++ [tk_ "word" "USING"]) ++ (rowsToks (x :: ys) ++ sufOf T) := by rw [eT]; simp
    have eA : toksOf WW = (tk_ "word" "CALL" :: o.toks ++ [tk_ "word" "USING"] ++ rowsToks (x :: ys)) ++ sufOf T := by rw [eT]; simp
    have hl1 : (tk_ "word" "CALL" :: o.toks ++ [tk_ "word" "USING"]).length = 1 + o.toks.length + 1 := by simp; omega
    have hl2 : (tk_ "word" "CALL" :: o.toks ++ [tk_ "word" "USING"] ++ rowsToks (x :: ys)).length = 1 + o.toks.length + 1 + (rowsToks (x :: ys)).length := by rw [List.length_append, hl1]
    obtain ⟨rb, hrun, h1, h2⟩ := tail_out (a := tk_ "word" "CALL" :: o.toks ++ [tk_ "word" "USING"] ++ rowsToks (x :: ys)) hc
    rw [hl2] at hrun h1 h2
    rw [← eA] at hrun h1
    have h0 : (toksOf WW)[1 + o.toks.length + 1 + (rowsToks (x :: ys)).length]? = some td := at_of (c := c) (by rw [eA, hsuf]) hl2
    obtain ⟨hSt, hU⟩ := stop_of h0 hst
    have hu0 : (toksOf WW)[1 + o.toks.length]? = some (tk_ "word" "USING") := at_of (a := tk_ "word" "CALL" :: o.toks) (c := rowsToks (x :: ys) ++ sufOf T) (by rw [eT]; simp) (by rw [List.length_cons, Nat.add_comm])
    have hc0 : (toksOf WW)[0]? = some (tk_ "word" "CALL") := by rw [eT]; rfl
    refine hears_using hSh o (tok_of hc0 (by decide +kernel)) (seg_of (a := [tk_ "word" "CALL"]) eT rfl) _ rfl ⟨tok_of hu0 (by decide +kernel), tok_of hu0 (by decide +kernel), tok_of hu0 (by decide +kernel)⟩ (tok_of hu0 (by decide +kernel)) (.inl (1 + o.toks.length + 1 + (rowsToks (x :: ys)).length, rowsDat "reference" (x :: ys))) rb (fun n' r hR hTb => ?_) (fun q ds e => ?_) _ (fun q2 ds q bs ea e => ?_) (fun i e => by cases e) (fun q2 ds i ea e => ?_)
    · exact (args_does w r n' (toksOf WW) _ hR hSh (x :: ys) (List.cons_ne_nil _ _) (seg_of eB hl1) hSt hok (by omega) hTb).R.mono (by decide) (by decide) (fun v n hP => ⟨_, _, rfl, hP⟩) (fun i z => z)
    · cases e
      exact hrun
    · cases ea
      obtain ⟨ks, rfl, rfl, he⟩ := h1 q bs e
      rw [he]
      simp only [outOf, eL]
    · obtain ⟨j, rfl, rfl⟩ := h2 i e
      simp only [outOf, eK]
/-! the three faults -/
theorem hears_1 (w : World) (o : Op) : Hears w (headW o ++ [("USING" : PySem.Str), ("END-CALL" : PySem.Str)]) (.inr ((headW o).length + 1)) := by
  have hV : vocs (headW o ++ [("USING" : PySem.Str), ("END-CALL" : PySem.Str)]) = true := vocs_app (vocs_head o) (by decide +kernel)
  have eT := toks_all o [("USING" : PySem.Str), ("END-CALL" : PySem.Str)]
  have eS : sufOf [("USING" : PySem.Str), ("END-CALL" : PySem.Str)] = [tk_ "word" "USING", tk_ "word" "END-CALL", tk_ "sign" "."] := by decide +kernel
  rw [eS] at eT
  have hSh := vocs_short hV
  generalize headW o ++ [("USING" : PySem.Str), ("END-CALL" : PySem.Str)] = WW at *
  have hl : (tk_ "word" "CALL" :: o.toks).length = 1 + o.toks.length := by rw [List.length_cons, Nat.add_comm]
  have hc0 : (toksOf WW)[0]? = some (tk_ "word" "CALL") := by rw [eT]; rfl
  have hu0 : (toksOf WW)[1 + o.toks.length]? = some (tk_ "word" "USING") := at_of (a := tk_ "word" "CALL" :: o.toks) (by rw [eT]; rfl) hl
  have hE : (toksOf WW)[1 + o.toks.length + 1]? = some (tk_ "word" "END-CALL") := at_of (a := tk_ "word" "CALL" :: o.toks ++ [tk_ "word" "USING"]) (c := [tk_ "sign" "."]) (by rw [eT]; simp) (by simp; omega)
  obtain ⟨⟨_, hb, k1, k2, k3⟩, _⟩ := stop_of hE (by simp [stopToks])
  refine hears_using hSh o (tok_of hc0 (by decide +kernel)) (seg_of (a := [tk_ "word" "CALL"]) eT rfl) _ rfl ⟨tok_of hu0 (by decide +kernel), tok_of hu0 (by decide +kernel), tok_of hu0 (by decide +kernel)⟩ (tok_of hu0 (by decide +kernel)) (.inr (1 + o.toks.length + 1)) (.inr 0) (fun n' r hR hTb => ?_) (fun q ds e => by cases e) _ (fun q2 ds q bs ea e => by cases e) (fun i e => ?_) (fun q2 ds i ea e => by cases ea)
  · exact (args_miss w r n' (toksOf WW) _ hR hSh k1 k2 k3 hb (List.getElem?_eq_some_iff.mp hE).1 hTb).R.mono (by decide) (by decide) (fun v n hP => hP) (fun i z => by rw [z])
  · cases e
    rw [head_len]
theorem hears_2 (w : World) (o : Op) : Hears w (headW o ++ [("USING" : PySem.Str), ("A" : PySem.Str), ("BY" : PySem.Str), ("A" : PySem.Str)]) (.inr ((headW o).length + 3)) := by
  have hV : vocs (headW o ++ [("USING" : PySem.Str), ("A" : PySem.Str), ("BY" : PySem.Str), ("A" : PySem.Str)]) = true := vocs_app (vocs_head o) (by decide +kernel)
  have eT := toks_all o [("USING" : PySem.Str), ("A" : PySem.Str), ("BY" : PySem.Str), ("A" : PySem.Str)]
  have eS : sufOf [("USING" : PySem.Str), ("A" : PySem.Str), ("BY" : PySem.Str), ("A" : PySem.Str)] = [tk_ "word" "USING", tk_ "word" "A", tk_ "word" "BY", tk_ "word" "A", tk_ "sign" "."] := by decide +kernel
  rw [eS] at eT
  have hSh := vocs_short hV
  generalize headW o ++ [("USING" : PySem.Str), ("A" : PySem.Str), ("BY" : PySem.Str), ("A" : PySem.Str)] = WW at *
  have hl : (tk_ "word" "CALL" :: o.toks).length = 1 + o.toks.length := by rw [List.length_cons, Nat.add_comm]
  have hc0 : (toksOf WW)[0]? = some (tk_ "word" "CALL") := by rw [eT]; rfl
  have hu0 : (toksOf WW)[1 + o.toks.length]? = some (tk_ "word" "USING") := at_of (a := tk_ "word" "CALL" :: o.toks) (by rw [eT]; rfl) hl
  have hA : Seg (toksOf WW) (1 + o.toks.length + 1) Op.A.toks := seg_of (a := tk_ "word" "CALL" :: o.toks ++ [tk_ "word" "USING"]) (c := [tk_ "word" "BY", tk_ "word" "A", tk_ "sign" "."]) (by rw [eT]; simp [Op.toks]) (by simp; omega)
  have hB : (toksOf WW)[1 + o.toks.length + 1 + 1]? = some (tk_ "word" "BY") := at_of (a := tk_ "word" "CALL" :: o.toks ++ [tk_ "word" "USING", tk_ "word" "A"]) (c := [tk_ "word" "A", tk_ "sign" "."]) (by rw [eT]; simp) (by simp; omega)
  have hA2 : (toksOf WW)[1 + o.toks.length + 1 + 1 + 1]? = some (tk_ "word" "A") := at_of (a := tk_ "word" "CALL" :: o.toks ++ [tk_ "word" "USING", tk_ "word" "A", tk_ "word" "BY"]) (c := [tk_ "sign" "."]) (by rw [eT]; simp) (by simp; omega)
  obtain ⟨k1, k2, k3⟩ := op_key Op.A hA
  refine hears_using hSh o (tok_of hc0 (by decide +kernel)) (seg_of (a := [tk_ "word" "CALL"]) eT rfl) _ rfl ⟨tok_of hu0 (by decide +kernel), tok_of hu0 (by decide +kernel), tok_of hu0 (by decide +kernel)⟩ (tok_of hu0 (by decide +kernel)) (.inr (1 + o.toks.length + 1 + 1 + 1)) (.inr 0) (fun n' r hR hTb => ?_) (fun q ds e => by cases e) _ (fun q2 ds q bs ea e => by cases e) (fun i e => ?_) (fun q2 ds i ea e => by cases ea)
  · exact (args_by w r n' (toksOf WW) _ hR hSh Op.A rfl hA (1 + o.toks.length + 1 + 1) rfl ⟨tok_of hB (by decide +kernel), tok_of hB (by decide +kernel), tok_of hB (by decide +kernel)⟩ (by decide +kernel) k1 k2 k3 (begins_op Op.A hA) (begins_no hB res_BY fig_BY) (tok_of hB (by decide +kernel)) (tok_of hA2 (by decide +kernel)) (tok_of hA2 (by decide +kernel)) (List.getElem?_eq_some_iff.mp hA2).1 (by rw [eT]; simp) hTb).R.mono (by decide) (by decide) (fun v n hP => hP) (fun i z => by rw [z])
  · cases e
    rw [head_len]
theorem hears_3 (w : World) (o : Op) (lo : Op) (hlo : lo = .n7 ∨ lo = .lQ ∨ lo = .z) : Hears w (headW o ++ ([("USING" : PySem.Str), ("BY" : PySem.Str), ("CONTENT" : PySem.Str), ("7" : PySem.Str), ("BY" : PySem.Str), ("REFERENCE" : PySem.Str)] ++ lo.words ++ [("A" : PySem.Str)])) (.inr ((headW o).length + 7)) := by
  have hll : lo.toks.length = 1 := by rcases hlo with rfl | rfl | rfl <;> rfl
  have hne : (lo.tag != ("ref" : PySem.Str)) = true := by rcases hlo with rfl | rfl | rfl <;> decide +kernel
  have hV : vocs (headW o ++ ([("USING" : PySem.Str), ("BY" : PySem.Str), ("CONTENT" : PySem.Str), ("7" : PySem.Str), ("BY" : PySem.Str), ("REFERENCE" : PySem.Str)] ++ lo.words ++ [("A" : PySem.Str)])) = true := vocs_app (vocs_head o) (vocs_app (vocs_app (by decide +kernel) (vocs_op lo)) (by decide +kernel))
  have eT := toks_all o ([("USING" : PySem.Str), ("BY" : PySem.Str), ("CONTENT" : PySem.Str), ("7" : PySem.Str), ("BY" : PySem.Str), ("REFERENCE" : PySem.Str)] ++ lo.words ++ [("A" : PySem.Str)])
  have eS : sufOf ([("USING" : PySem.Str), ("BY" : PySem.Str), ("CONTENT" : PySem.Str), ("7" : PySem.Str), ("BY" : PySem.Str), ("REFERENCE" : PySem.Str)] ++ lo.words ++ [("A" : PySem.Str)]) = [tk_ "word" "USING", tk_ "word" "BY", tk_ "word" "CONTENT", tk_ "number" "7", tk_ "word" "BY", tk_ "word" "REFERENCE"] ++ lo.toks ++ [tk_ "word" "A", tk_ "sign" "."] := by
    unfold sufOf
    rw [List.map_append, List.map_append, List.map_append, toks_word]
    have e1 : [("USING" : PySem.Str), ("BY" : PySem.Str), ("CONTENT" : PySem.Str), ("7" : PySem.Str), ("BY" : PySem.Str), ("REFERENCE" : PySem.Str)].map tokOf = [tk_ "word" "USING", tk_ "word" "BY", tk_ "word" "CONTENT", tk_ "number" "7", tk_ "word" "BY", tk_ "word" "REFERENCE"] := by decide +kernel
    have e2 : [("A" : PySem.Str)].map tokOf = [tk_ "word" "A"] := by decide +kernel
    have e3 : [("." : PySem.Str)].map tokOf = [tk_ "sign" "."] := by decide +kernel
    rw [e1, e2, e3, List.append_assoc _ [tk_ "word" "A"]]
    rfl
  rw [eS] at eT
  have hSh := vocs_short hV
  generalize headW o ++ ([("USING" : PySem.Str), ("BY" : PySem.Str), ("CONTENT" : PySem.Str), ("7" : PySem.Str), ("BY" : PySem.Str), ("REFERENCE" : PySem.Str)] ++ lo.words ++ [("A" : PySem.Str)]) = WW at *
  have hl : (tk_ "word" "CALL" :: o.toks).length = 1 + o.toks.length := by rw [List.length_cons, Nat.add_comm]
  have hc0 : (toksOf WW)[0]? = some (tk_ "word" "CALL") := by rw [eT]; rfl
  obtain ⟨q1, hq1⟩ : ∃ q1, q1 = 1 + o.toks.length + 1 := ⟨_, rfl⟩
  have hu0 : (toksOf WW)[1 + o.toks.length]? = some (tk_ "word" "USING") := at_of (a := tk_ "word" "CALL" :: o.toks) (by rw [eT]; rfl) hl
  have hS1 : Seg (toksOf WW) q1 (Pre.con true).toks := seg_of (a := tk_ "word" "CALL" :: o.toks ++ [tk_ "word" "USING"]) (c := [tk_ "number" "7", tk_ "word" "BY", tk_ "word" "REFERENCE"] ++ lo.toks ++ [tk_ "word" "A", tk_ "sign" "."]) (by rw [eT]; simp [Pre.toks, byT]) (by simp; omega)
  have hS2 : Seg (toksOf WW) (q1 + 2) Op.n7.toks := seg_of (a := tk_ "word" "CALL" :: o.toks ++ [tk_ "word" "USING", tk_ "word" "BY", tk_ "word" "CONTENT"]) (c := [tk_ "word" "BY", tk_ "word" "REFERENCE"] ++ lo.toks ++ [tk_ "word" "A", tk_ "sign" "."]) (by rw [eT]; simp [Op.toks]) (by simp; omega)
  have hS3 : Seg (toksOf WW) (q1 + 3) (Pre.ref true).toks := seg_of (a := tk_ "word" "CALL" :: o.toks ++ [tk_ "word" "USING", tk_ "word" "BY", tk_ "word" "CONTENT", tk_ "number" "7"]) (c := lo.toks ++ [tk_ "word" "A", tk_ "sign" "."]) (by rw [eT]; simp [Pre.toks, byT]) (by simp; omega)
  have hS4 : Seg (toksOf WW) (q1 + 5) lo.toks := seg_of (a := tk_ "word" "CALL" :: o.toks ++ [tk_ "word" "USING", tk_ "word" "BY", tk_ "word" "CONTENT", tk_ "number" "7", tk_ "word" "BY", tk_ "word" "REFERENCE"]) (c := [tk_ "word" "A", tk_ "sign" "."]) (by rw [eT]; simp) (by simp; omega)
  have hA2 : (toksOf WW)[q1 + 6]? = some (tk_ "word" "A") := at_of (a := tk_ "word" "CALL" :: o.toks ++ [tk_ "word" "USING", tk_ "word" "BY", tk_ "word" "CONTENT", tk_ "number" "7", tk_ "word" "BY", tk_ "word" "REFERENCE"] ++ lo.toks) (c := [tk_ "sign" "."]) (by rw [eT]; simp) (by simp; omega)
  have hB : (toksOf WW)[q1 + 3]? = some (tk_ "word" "BY") := hS3.zero rfl
  refine hears_using hSh o (tok_of hc0 (by decide +kernel)) (seg_of (a := [tk_ "word" "CALL"]) eT rfl) _ rfl ⟨tok_of hu0 (by decide +kernel), tok_of hu0 (by decide +kernel), tok_of hu0 (by decide +kernel)⟩ (tok_of hu0 (by decide +kernel)) (.inr (q1 + 6)) (.inr 0) (fun n' r hR hTb => ?_) (fun q ds e => by cases e) _ (fun q2 ds q bs ea e => by cases e) (fun i e => ?_) (fun q2 ds i ea e => by cases ea)
  · rw [← hq1] at hR
    exact (args_lit w r n' (toksOf WW) q1 hR hSh (.con true) (.ref true) .n7 lo (q1 + 2) (q1 + 3) (q1 + 5) (q1 + 6) rfl rfl hS1 (fun z => nomatch z) rfl (begins_op .n7 hS2) hS2 rfl ⟨tok_of hB (by decide +kernel), tok_of hB (by decide +kernel), tok_of hB (by decide +kernel)⟩ (begins_no hB res_BY fig_BY) (tok_of hB (by decide +kernel)) hS3 (fun z => nomatch z) rfl (begins_op lo hS4) hS4 (by rw [hll]) ⟨tok_of hA2 (by decide +kernel), tok_of hA2 (by decide +kernel), tok_of hA2 (by decide +kernel)⟩ hne (List.getElem?_eq_some_iff.mp hA2).1 (by rw [eT]; simp) hTb).R.mono (by decide) (by decide) (fun v n hP => hP) (fun i z => by rw [z])
  · cases e
    rw [head_len, hq1]
end Mine
end

section
open PySem PySem.W PyProof.Rows PySem.Calls PySem.Spec
set_option maxRecDepth 100000
namespace Mine
def TupN (news : Led) (a : Addr) (ws : List PySem.Str) : Prop := ∃ vs k, (a, tupO vs k) ∈ news ∧ StrsAre vs ws
theorem TupN.W {n : Led} {a : Addr} {ws : List PySem.Str} (h : TupN n a ws) : TupW n a ws := let ⟨vs, k, h1, h2⟩ := h; ⟨vs, k, List.mem_append_left _ h1, h2⟩
theorem TupN.up {a b : Led} {wa : Addr} {ws : List PySem.Str} (h : TupN a wa ws) (k : Up a b) : TupN b wa ws := let ⟨vs, n, h1, h2⟩ := h; ⟨vs, n, k _ _ _ h1, h2⟩
theorem TupN.cast {n : Led} {a : Addr} {ws us : List PySem.Str} (h : TupN n a ws) (e : ws = us) : TupN n a us := e ▸ h
section
variable {prog : Program} {w : World} {A : Around} {E : Value → Shared → Prop} {s : Shared} {h₀ : Heap} {L : Addr} {m : PySem.Str → Option Value} {news : Led} {Q : Value → Shared → Prop}
theorem addN {a b : Addr} {ws us : List PySem.Str} (F : Fr h₀ L s.heap m) (N : News h₀ L s.heap news) (X : (KK w.params).In h₀) (h1 : TupN news a ws) (h0 : 0 < ws.length) (h2 : TupW news b us) (hz : ws.length + us.length ≤ 4000)
    (h : ∀ D h' news', Fr h₀ L h' m → News h₀ L h' news' → (∀ q ∈ news, q ∈ news') → TupN news' D (ws ++ us) → Q (.ref D) { s with heap := h' }) : wpAny (model prog w) A (binaryOp .Add (.ref a) (.ref b)) Q E s := by
  obtain ⟨vs, n1, h1, e1⟩ := h1
  obtain ⟨xs, n2, h2, e2⟩ := h2
  have l1 := e1.length
  have l2 := e2.length
  refine add_tuples F N (all_tup F N X (List.mem_append_left _ h1)) (all_tup F N X h2) (fun e => ?_) (fun _ e => ?_) (fun _ _ h' F' N' => ?_) (by rw [sizeLine_eq]; omega)
  · subst e; simp at l1; omega
  · subst e
    cases e2
    exact h a s.heap news F N (fun _ h => h) ⟨vs, n1, h1, by rw [List.append_nil]; exact e1⟩
  · exact h _ h' _ F' N' (fun _ h => List.mem_cons_of_mem _ h) ⟨_, _, .head _, StrsAre.append' e1 e2⟩
theorem datAll_app {a : Led} : ∀ {vs us : List Value} {ds es : List Dat}, DatAll a vs ds → DatAll a us es → DatAll a (vs ++ us) (ds ++ es)
  | _, _, _, _, .nil, h => h
  | _, _, _, _, .cons x r, h => .cons x (datAll_app r h)
theorem addD {a b : Addr} {ds es : List Dat} (F : Fr h₀ L s.heap m) (N : News h₀ L s.heap news) (X : (KK w.params).In h₀) (h1 : DatIn (All news) (.ref a) (.tuple ds)) (n1 : noLs ds = true) (h2 : DatIn (All news) (.ref b) (.tuple es)) (n2 : noLs es = true) (hz : ds.length + es.length ≤ 4000)
    (h : ∀ D h' news', Fr h₀ L h' m → News h₀ L h' news' → (∀ q ∈ news, q ∈ news') → DatIn (All news') (.ref D) (.tuple (ds ++ es)) → Q (.ref D) { s with heap := h' }) : wpAny (model prog w) A (binaryOp .Add (.ref a) (.ref b)) Q E s := by
  cases h1 with
  | tuple h1 r1 =>
    cases h2 with
    | tuple h2 r2 =>
      have l1 := PySem.W.DatAll.length r1
      have l2 := PySem.W.DatAll.length r2
      refine add_tup F N X h1 h2 (by omega) fun D n h' news' F' N' k hD => h D h' news' F' N' k (.tuple hD ?_)
      have u : Up (All news) (All news') := (Up.sub k).all
      exact datAll_app (DatAll.up u r1 n1) (DatAll.up u r2 n2)
/-! the last item of a tuple, and all but the last -/
theorem last_led {l : Addr} {vs : List Value} {v : Value} {n : Nat} {value slice : PySem.Expr} {u : Tok} (N : News h₀ L s.heap news) (hl : (l, tupO (vs ++ [v]) n) ∈ news) (hz : vs.length ≤ 1000) (h : Q v s)
    (hs : subscripted slice false (.ref l) (.int (-1) u) = operate [.ref l, .int (-1) u] (getItem (.ref l) (.int (-1) u)) := by with_unfolding_all rfl) :
    wpAny (model prog w) A (subscriptTail value slice (.ref l) (.int (-1) u)) Q E s := by
  have ht : IsTup s.heap l (vs ++ [v]).toArray := News.isTup N hl
  refine tail_any ht.typeIs slot_tuple_getitem.lookup (getItem_tuple ht (by decide) (by decide) (j := vs.length) ?_ (x := v) (by simp) h) hs
  rw [PySem.seqIndex_neg (by decide) (by simp; omega)]
  congr 1
  simp
  omega
theorem applied_but1 {sl : Addr} {n : Nat} {u : Tok} {Q : Int × Int × Nat → Shared → Prop} (hs : s.heap.IsSliceOf sl .none (.int (-1) u) .none) (hn : 1 ≤ n) (h : Q (0, 1, n - 1) s) :
    wpAny (model prog w) A (Builtin.Slice.sliceApplied (.ref sl) (pure (n : Int))) Q E s := by
  obtain ⟨os, hos, hcs, hds⟩ := id hs
  unfold Builtin.Slice.sliceApplied Builtin.Slice.sliceFields
  refine wpAny_bind (wpAny_bind (wpAny_field hos hds (x := .none) rfl (wpAny_bind (wpAny_field hos hds (x := .int (-1) u) rfl (wpAny_bind (wpAny_field hos hds (x := .none) rfl (wpAny_pure ?_)))))))
  refine wpAny_bind (slicePart_none ?_)
  show wpAny _ _ (if ((1 : Int) == 0) = true then _ else _) _ _ s
  rw [if_neg (by decide)]
  refine wpAny_bind (slicePart_none (wpAny_bind (slicePart_int (wpAny_bind (wpAny_pure ?_)))))
  have e : Builtin.Slice.sliceAdjust none (some (-1 : Int)) 1 (n : Int) = (0, ((n - 1 : Nat) : Int)) := by
    unfold Builtin.Slice.sliceAdjust
    simp only [show ¬ ((1 : Int) < 0) by omega, show ((-1 : Int) < 0) by omega, if_true, if_false]
    congr 1
    omega
  have e2 : Builtin.Slice.slicePlaces 0 ((n - 1 : Nat) : Int) 1 = n - 1 := by
    unfold Builtin.Slice.slicePlaces
    simp only [show ((1 : Int) > 0) by omega, if_true, Int.ediv_one]
    split <;> omega
  show wpAny _ _ (match Builtin.Slice.sliceAdjust none (some (-1 : Int)) 1 (n : Int) with | (lo, hi) => pure (lo, (1 : Int), Builtin.Slice.slicePlaces lo hi 1)) _ _ s
  rw [e]
  show wpAny _ _ (pure ((0 : Int), (1 : Int), Builtin.Slice.slicePlaces 0 ((n - 1 : Nat) : Int) 1)) _ _ s
  rw [e2]
  exact wpAny_pure h
theorem getItem_but1 {t sl : Addr} {vs : List Value} {v : Value} {u : Tok} (ht : IsTup s.heap t (vs ++ [v]).toArray) (hs : s.heap.IsSliceOf sl .none (.int (-1) u) .none) (hz : vs.length ≤ 1000)
    (h : Q (.ref s.heap.objs.size) { s with heap := s.heap.push { cls := .type "tuple", data := .seq vs.toArray } }) : wpAny (model prog w) A (getItem (.ref t) (.ref sl)) Q E s := by
  have hdrop : sizeOk (.seq vs.toArray) := by
    show vs.toArray.size ≤ sizeLine
    rw [sizeLine_eq]; simp; omega
  obtain ⟨os, hos, hcs, hds⟩ := id hs
  have hTs : s.TypeIs (.ref sl) "slice" := ⟨os, hos, hcs⟩
  unfold getItem
  try with_reducible refine wpAny_holding ?_
  first | refine wpAny_bind (wpAny_pure ?_) | skip
  refine wpAny_bind (wpAny_sequenceKey ht.typeIs (by decide) ?_)
  refine wpAny_bind (wpAny_callSpecial?_slot (name := PySem.Str.ofString "__getitem__") ht.typeIs slot_tuple_getitem
    (wpAny_call_entry slot_tuple_getitem ht.typeIs entry_tuple_getitem ?_ (args_tuple_getitem _ _)))
  show wpAny _ _ (Builtin.Tuple.tupleItemsOf (.ref t) >>= _) _ _ s
  refine wpAny_bind (tupleItemsOf_ ht ?_)
  refine wpAny_bind (wpAny_typeOf hTs ?_)
  rw [if_pos (by decide)]
  have hsz : (vs ++ [v]).toArray.size = vs.length + 1 := by simp
  refine wpAny_bind (applied_but1 hs (by omega) ?_)
  have hno : ¬ (((0 : Int) == 0 && (1 : Int) == 1 && ((vs ++ [v]).toArray.size - 1) == (vs ++ [v]).toArray.size) = true) := by
    have : (((vs ++ [v]).toArray.size - 1) == (vs ++ [v]).toArray.size) = false := by rw [beq_eq_false_iff_ne]; omega
    rw [this]; simp
  have hp : ((List.range ((vs ++ [v]).toArray.size - 1)).filterMap fun (k : Nat) => (vs ++ [v]).toArray[((0 : Int) + (k : Int) * 1).toNat]?).toArray = vs.toArray := by
    have e : (fun (k : Nat) => (vs ++ [v]).toArray[((0 : Int) + (k : Int) * 1).toNat]?) = (fun x => (vs ++ [v]).toArray[x]?) ∘ fun k => 0 + k := by
      funext k
      have : ((0 : Int) + (k : Int) * 1).toNat = 0 + k := by omega
      rw [this]; rfl
    have := pick_run (vs ++ [v]).toArray 0 ((vs ++ [v]).toArray.size - 1)
    rw [List.filterMap_map, ← e] at this
    rw [this, hsz]
    simp
  show wpAny _ _ (if ((0 : Int) == 0 && (1 : Int) == 1 && ((vs ++ [v]).toArray.size - 1) == (vs ++ [v]).toArray.size) = true then _ else _) _ _ s
  rw [if_neg hno, hp]
  first
    | exact wpAny_bind (m := Builtin.Tuple.tupleExact _) (wpAny_newObj_type (wpAny_pure ⟨_, rfl, wpAny_pure h⟩) hdrop)
    | exact wpAny_bind (m := Builtin.Tuple.tupleExact _) (wpAny_newObj_type (wpAny_bind (wpAny_pure (wpAny_pure ⟨_, rfl, wpAny_pure h⟩))) hdrop)
    | exact wpAny_bind (wpAny_bind (m := Builtin.Tuple.tupleExact _) (wpAny_newObj_type (wpAny_pure (wpAny_pure ⟨_, rfl, wpAny_pure h⟩)) hdrop))
    | exact wpAny_bind (wpAny_bind (m := Builtin.Tuple.tupleExact _) (wpAny_newObj_type (wpAny_pure ⟨_, rfl, wpAny_pure h⟩) hdrop))
theorem but1_led {value slice : PySem.Expr} {t : Addr} {vs : List Value} {v : Value} {n : Nat} {u : Tok} (F : Fr h₀ L s.heap m) (N : News h₀ L s.heap news) (hl : (t, tupO (vs ++ [v]) n) ∈ news) (hz : vs.length ≤ 1000)
    (h : ∀ D h', Fr h₀ L h' m → News h₀ L h' ((D, tupO vs 0) :: news) → Q (.ref D) { s with heap := h' })
    (hs : subscripted slice false (.ref t) (.ref s.heap.objs.size) = operate [.ref s.heap.objs.size, .ref t] (getItem (.ref t) (.ref s.heap.objs.size)) := by with_unfolding_all rfl)
    (hg : ∀ r, letTemporaryGo value (.ref t) r = pure () := by intro _; with_unfolding_all rfl) :
    wpAny (model prog w) A (subscriptTail value slice (.ref t) (.ref s.heap.objs.size)) Q E { s with heap := s.heap.push { cls := .type "slice", data := .fields #[.none, .int (-1) u, .none] } } := by
  have ht : IsTup s.heap t (vs ++ [v]).toArray := News.isTup N hl
  have ht' : IsTup (s.heap.push { cls := .type "slice", data := .fields #[.none, .int (-1) u, .none] }) t (vs ++ [v]).toArray := ht.keeps fun _ _ e => Heap.get?_push_of_some _ e
  refine subscriptTail_ops (s := { s with heap := s.heap.push { cls := .type "slice", data := .fields #[.none, .int (-1) u, .none] } }) ht'.typeIs slot_tuple_getitem.lookup
    (getItem_but1 ht' (Heap.IsSliceOf.new ..) hz ?_) hs hg
  have N1 := News.push (F.push { cls := .type "slice", data := .fields #[.none, .int (-1) u, .none] }) (N.grown fun _ _ e => Heap.get?_push_of_some _ e) { cls := .type "tuple", data := .seq vs.toArray }
  exact h _ _ ((F.push _).push _) N1
end
theorem strs_snoc : ∀ {ws : List PySem.Str} {x : PySem.Str} {vs : List Value}, StrsAre vs (ws ++ [x]) → ∃ us t, vs = us ++ [.str x t] ∧ StrsAre us ws
  | [], x, _, .cons _ t .nil => ⟨[], t, rfl, .nil⟩
  | w :: ws, x, _, .cons _ t h => let ⟨us, t', e, h'⟩ := strs_snoc h; ⟨.str w t :: us, t', by rw [e]; rfl, .cons _ _ h'⟩
/-! loops whose target is a tuple -/
section
variable {prog : Program} {w : World} {A : Around} {E : Value → Shared → Prop} {s : Shared} {h₀ : Heap} {env : Env} {target : Expr} {body : List Stmt} {Q : Flow → Shared → Prop}
def TupRestT (prog : Program) (w : World) (A : Around) (E : Value → Shared → Prop) (h₀ : Heap) (env : Env) (target : Expr) (body : List Stmt) (Q : Flow → Shared → Prop) (s : Shared) (I : Addr) (lp : Addr × Obj) : List Value → (PySem.Str → Option Value) → Led → Prop
  | [], m, news => ∀ h tk, Fr h₀ env.locals h m → News h₀ env.locals h news → Q .next { s with heap := h, toks := tk }
  | v :: r, m, news => ∀ (it : Obj) h tk, it.cls = .type "tuple_iterator" → isRd it = false → Fr h₀ env.locals h m → News h₀ env.locals h ((I, it) :: news) →
      wpAny (model prog w) A (assign target env v) (fun _ s₂ => wpAny (model prog w) A (execs body env) (UnrPost h₀ env.locals { s with heap := h, toks := tk } I it (fun m' n' => lp ∈ n' ∧ TupRestT prog w A E h₀ env target body Q s I lp r m' n') Q) E s₂) E { s with heap := h, toks := tk }
theorem tupRestT_ind {I : Addr} {lp : Addr × Obj} (Inv : List Value → (PySem.Str → Option Value) → Led → Prop)
    (step : ∀ v r m news, Inv (v :: r) m news → ∀ (it : Obj) h tk, it.cls = .type "tuple_iterator" → isRd it = false → Fr h₀ env.locals h m → News h₀ env.locals h ((I, it) :: news) →
      wpAny (model prog w) A (assign target env v) (fun _ s₂ => wpAny (model prog w) A (execs body env) (UnrPost h₀ env.locals { s with heap := h, toks := tk } I it (fun m' n' => lp ∈ n' ∧ Inv r m' n') Q) E s₂) E { s with heap := h, toks := tk })
    (fin : ∀ m news, Inv [] m news → ∀ h tk, Fr h₀ env.locals h m → News h₀ env.locals h news → Q .next { s with heap := h, toks := tk }) :
    ∀ vs m news, Inv vs m news → TupRestT prog w A E h₀ env target body Q s I lp vs m news
  | [], m, news, hI => fun h tk F N => fin m news hI h tk F N
  | v :: r, m, news, hI => fun it h tk hc hr F N => wpAny_mono (step v r m news hI it h tk hc hr F N) (fun _ s₂ p => wpAny_mono p (fun f s₃ q => UnrPost.mono (fun m' n' z => ⟨z.1, tupRestT_ind Inv step fin r m' n' z.2⟩) q) fun _ _ z => z) fun _ _ z => z
theorem iter_tupT {ax : Addr} {vs : List Value} {n : Nat} {m₀ : PySem.Str → Option Value} {news : Led}
    (hh : A.handled = none) (F : Fr h₀ env.locals s.heap m₀) (N : News h₀ env.locals s.heap news) (hm : (ax, tupO vs n) ∈ news)
    (rest₀ : Hold (∀ I : Addr, (∀ p ∈ news, p.1 < I) → TupRestT prog w A E h₀ env target body Q s I (ax, tupO vs n) vs m₀ news)) :
    wpAny (model prog w) A (pyIter (.ref ax)) (fun it s₂ => TurnsAt prog w A h₀ env target body Q E it s₂) E s := by
  have hax := N _ hm
  have hl : s.heap.IsTuple ax vs.toArray := ⟨_, hax.1, rfl, n, rfl⟩
  have hne : ax ≠ s.heap.objs.size := Nat.ne_of_lt (Heap.lt_size hax.1)
  refine wpAny_pyIter_tuple hl ?_
  have rest := rest₀.out s.heap.objs.size fun p hp => Heap.lt_size (N p hp).1
  have W := KTurns.ofWalks (target := target) (Walks.tuple (prog := prog) (w := w) hh s.heap.objs.size ax hne vs.toArray) fun i v s Q E st q => letGo_tupleiter st.1 q
  have hnew := next_is_new F
  have hlen : vs.toArray.size = vs.length := by simp
  rw [hlen] at W
  let J : Nat → (PySem.Str → Option Value) → Led → Prop := fun i m₁ news₁ => (ax, tupO vs n) ∈ news₁ ∧ TupRestT prog w A E h₀ env target body Q s s.heap.objs.size (ax, tupO vs n) (vs.drop i) m₁ news₁
  refine ⟨_, _, _, vs.length, _, _, _, m₀, news, J, rfl, W, ?_, ?_, ?_, ⟨⟨_, Heap.get?_push_size _ rfl, rfl, rfl⟩, hl.at fun o e => Heap.get?_push_of_some _ e⟩, F.push _, (fun p hp => ⟨Heap.get?_push_of_some _ (N p hp).1, (N p hp).2⟩), ⟨hm, by rw [List.drop_zero]; exact rest⟩, ?_, ?_⟩
  · intro hmm
    rcases List.mem_cons.mp hmm with e | hmm
    · exact absurd F.ns.lt (e ▸ Nat.lt_irrefl _)
    · exact hax.2.1 (List.mem_singleton.mp hmm).symm
  · intro b hb
    rw [List.mem_singleton.mp hb]
    exact hnew
  · intro p hp hI
    exact absurd (Heap.lt_size (N p hp).1) ((List.mem_singleton.mp hI) ▸ Nat.lt_irrefl _)
  · rintro i v m₁ news₁ h₁ tk₁ own hin hP ⟨hmem₁, hJ⟩ hoff hown hget hall hst F₁ N₁
    obtain ⟨it, hit, hic, hid⟩ := hst.1
    have hmemI := hall s.heap.objs.size (List.mem_cons_self ..) hnew _ hit
    have hdrop : vs.drop i = v :: vs.drop (i + 1) := by
      have hv : vs[i]? = some v := by simpa using hP
      rw [List.drop_eq_getElem_cons hin]
      congr 1
      exact Option.some.inj ((List.getElem?_eq_getElem hin).symm.trans hv)
    rw [hdrop] at hJ
    have N₂ : News h₀ env.locals h₁ ((s.heap.objs.size, it) :: news₁) := fun p hp => by
      rcases List.mem_cons.mp hp with rfl | hp
      · exact N₁ _ (List.mem_append_left _ hmemI)
      · exact N₁ _ (List.mem_append_right _ hp)
    have fin : ∀ s₃, UnrEnd h₀ env.locals { s with heap := h₁, toks := tk₁ } s.heap.objs.size it (fun m' n' => (ax, tupO vs n) ∈ n' ∧ TupRestT prog w A E h₀ env target body Q s s.heap.objs.size (ax, tupO vs n) (vs.drop (i + 1)) m' n') s₃ →
        LoopStepU h₀ env.locals [s.heap.objs.size] own (J (i + 1)) { s with heap := h₁, toks := tk₁ } .next s₃ := by
      rintro s₃ ⟨h', tk, m', news', e, F', N', ho, hmm, r⟩
      refine ⟨rfl, h', tk, m', news', e, F', fun p hp => ?_, fun p hp hI => ho p hp (List.mem_singleton.mp hI), hmm, r⟩
      rcases List.mem_append.mp hp with hp | hp
      · have h2 : h₁.get? p.1 = some p.2 := hget p hp
        rcases List.mem_cons.mp (hown p hp) with h1 | h1
        · have h3 : p = (s.heap.objs.size, it) := by
            rw [h1, hit] at h2
            exact Prod.ext h1 (Option.some.inj h2).symm
          rw [h3]; exact N' _ (List.mem_cons_self ..)
        · have h1' : p.1 = ax := List.mem_singleton.mp h1
          have h3 : p = (ax, tupO vs n) := by
            rw [h1', (N₁ _ (List.mem_append_right _ hmem₁)).1] at h2
            exact Prod.ext h1' (Option.some.inj h2).symm
          rw [h3]; exact N' _ (List.mem_cons_of_mem _ hmm)
      · exact N' _ (List.mem_cons_of_mem _ hp)
    refine wpAny_mono (hJ it h₁ tk₁ hic (isRd_fields hid) F₁ N₂) (fun _ s₂ h₂ => wpAny_mono h₂ (fun f s₃ p => ?_) fun _ _ e => e) fun _ _ e => e
    cases f with
    | ret v => exact .ret p
    | brk => exact .brk p
    | next => exact .next (fin _ p)
    | cont => exact .cont (fin _ p)
  · rintro h' tk m' news' F' N' _ ⟨_, hJ⟩
    have z : vs.drop vs.length = [] := List.drop_length
    rw [z] at hJ
    exact hJ h' tk F' N'
end
/-! the law's statements, one by one -/
abbrev lawN {n : PySem.Str} {p : Arguments} {b : List Stmt} {sc : Scope} (_ : defParts 71 = some (n, p, b, sc)) : PySem.Str := n
abbrev lawSc {n : PySem.Str} {p : Arguments} {b : List Stmt} {sc : Scope} (_ : defParts 71 = some (n, p, b, sc)) : Scope := sc
abbrev lawB {n : PySem.Str} {p : Arguments} {b : List Stmt} {sc : Scope} (_ : defParts 71 = some (n, p, b, sc)) : List Stmt := b
def SegPost (h₀ : Heap) (L : Addr) (s : Shared) (J : (PySem.Str → Option Value) → Led → Prop) (fl : Flow) (s' : Shared) : Prop :=
  ∃ h' tk' m' n', fl = .next ∧ s' = { s with heap := h', toks := tk' } ∧ Fr h₀ L h' m' ∧ News h₀ L h' n' ∧ J m' n'
theorem SegPost.mk9 {h₀ h' : Heap} {L : Addr} {s : Shared} {J : (PySem.Str → Option Value) → Led → Prop} {tk' : Nat} {m' : PySem.Str → Option Value} {n' : Led} (F : Fr h₀ L h' m') (N : News h₀ L h' n') (j : J m' n') : SegPost h₀ L s J .next { s with heap := h', toks := tk' } := ⟨_, _, _, _, rfl, rfl, F, N, j⟩
def StDoes (w : World) (st : Stmt) (cn : PySem.Str) (cs : Scope) (I J : (PySem.Str → Option Value) → Led → Prop) : Prop :=
  ∀ (_ : rw1 = rw1) (dp un : Nat) (gd : Option (List Code)) (a : Addr) (ccd : Value) (A₀ : Around) (base h₀ : Heap) (L : Addr) (m mg mb : PySem.Str → Option Value) (mean : ExcName → Option Value) (s : Shared) (E : Value → Shared → Prop) (news : Led),
    Below A₀ base [] h₀ → (KK w.params).In base → Top qv (looseW qv looseV) mean mg mb base → Fr h₀ L s.heap m → (KK w.params).In h₀ → News h₀ L s.heap news → Top qv (looseW qv looseV) mean mg mb h₀ → dp + 490 < recursionLimit → un + 6100 < cLine → PassesOwn (model pw w) (ktrTop dp un gd cn cs L a ccd [] []) (envX cn cs L a ccd []) E → I m news →
    wpAny (model pw w) (ktrTop dp un gd cn cs L a ccd [] []) (exec st (envX cn cs L a ccd [])) (SegPost h₀ L s J) E s
def LawSt (W : List PySem.Str) (o : Op) (rd : List Dat) (m : PySem.Str → Option Value) (n : Led) : Prop :=
  ∃ (S wa : Addr) (cv rv : Value), m "source" = some (.ref S) ∧ m "words" = some (.ref wa) ∧ m "called" = some cv ∧ m "rows" = some rv ∧ TupN n wa W ∧ DatIn (All n) cv o.dat ∧ DatIn (All n) rv (.tuple rd) ∧ SrcAt n S ∧ Tb n
theorem heard_law {w : World} {news : Led} {wa : Addr} {W : List PySem.Str} {out : Out} (hW : TupN news wa W) (hv : vocs W = true) (hz : W.length ≤ 900) (H : Hears w W out) (hT : Tb news) : DoesH w 582 [.ref wa, .ref 603] 480 6000 news (HeardPost news W out) := by
  obtain ⟨vs, k, h1, h2⟩ := hW
  exact heard_does w news wa vs W k h1 h2 (vocs_voc hv) (by rw [h2.length]; exact hz) out H hT
theorem source_use {w : World} {news : Led} {C : Addr} {vs : List Value} {is : List Int} (hI : IntsAre vs is) (hz : is.length ≤ 63)
    {dp un : Nat} {gd : Option (List Code)} {cn : PySem.Str} {cs : Scope} {a : Addr} {ccd : Value} {cl : List (PySem.Str × Addr)} {outer : List Env} {A₀ : Around} {base h₀ : Heap} {L : Addr} {m mg mb : PySem.Str → Option Value} {mean : ExcName → Option Value} {s : Shared} {Q E : Value → Shared → Prop}
    (B : Below A₀ base outer h₀) (F : Fr h₀ L s.heap m) (X : (KK w.params).In h₀) (N : News h₀ L s.heap news) (T : Top qv (looseW qv looseV) mean mg mb h₀) (hk : cs.kind = .function) (hd : dp + 60 < recursionLimit) (hu : un + 700 < cLine) (hL : h₀.IsList C vs.toArray)
    (hret : ∀ v news' h' tk', Fr h₀ L h' m → News h₀ L h' news' → (∃ S, v = .ref S ∧ SrcAt news' S ∧ ∀ q ∈ news, q ∈ news') → Q v { s with heap := h', toks := tk' }) :
    wpAny (model pw w) (ktrTop dp un gd cn cs L a ccd cl outer) (call (.ref 527) [.ref C]) Q E s := source_does w news C vs is hI hz rfl dp un gd cn cs a ccd cl outer A₀ base h₀ L m mg mb mean s Q E B F X N T hk hd hu hL hret
theorem fr1 {g h : Heap} {L : Addr} {m : PySem.Str → Option Value} {k1 : PySem.Str} {v1 : Option Value} (F : Fr g L h m) (h1 : m k1 = v1) : Fr g L h (fun y => if y = k1 then v1 else m y) := by
  refine Fr.congr F fun y => ?_
  by_cases e1 : y = k1
  · rw [if_pos e1, e1, h1]
  rw [if_neg e1]
theorem fr5 {g h : Heap} {L : Addr} {m : PySem.Str → Option Value} {k1 k2 k3 k4 k5 : PySem.Str} {v1 v2 v3 v4 v5 : Option Value} (F : Fr g L h m) (h1 : m k1 = v1) (h2 : m k2 = v2) (h3 : m k3 = v3) (h4 : m k4 = v4) (h5 : m k5 = v5) :
    Fr g L h (fun y => if y = k1 then v1 else if y = k2 then v2 else if y = k3 then v3 else if y = k4 then v4 else if y = k5 then v5 else m y) := by
  refine Fr.congr (fr4 F h1 h2 h3 h4) fun y => ?_
  by_cases e5 : y = k5
  · rw [e5, if_pos rfl, h5]
  · rw [if_neg e5]
theorem len_N {prog : Program} {w : World} {A : Around} {E : Value → Shared → Prop} {s : Shared} {h₀ : Heap} {L a : Addr} {news : Led} {ws : List PySem.Str} {Q : Value → Shared → Prop} (N : News h₀ L s.heap news) (h : TupN news a ws) (hz : ws.length ≤ 900)
    (q : ∀ t, Q (.int ((ws.length : Nat) : Int) t) { s with toks := s.toks + 1 + 1 }) : wpAny (model prog w) A (call (.builtin "len") [.ref a]) Q E s := by
  obtain ⟨vs, k, h1, h2⟩ := h
  have hl := h2.length
  exact kun_lenT (items := vs.toArray) (k := ((ws.length : Nat) : Int)) (News.isTup N h1) (by simp [hl]) (by omega) (q _)
/-! what a turn keeps -/
def Kc (a b : Led) : Prop := ∀ q ∈ a, isRd q.2 = false → q.2.cls ≠ .none → q.2.cls ≠ .type "list" → q ∈ b
theorem Kc.refl {a : Led} : Kc a a := fun _ h _ _ _ => h
theorem Kc.trans {a b c : Led} (x : Kc a b) (y : Kc b c) : Kc a c := fun q h i n l => y q (x q h i n l) i n l
theorem Kc.sub {a b : Led} (k : ∀ q ∈ a, q ∈ b) : Kc a b := fun q h _ _ _ => k q h
theorem Kc.butC {a b : Led} (k : ButC a b) : Kc a b := fun q h _ _ l => k q h l
theorem Kc.keepT {a b : Led} (k : KeepT a b) : Kc a b := fun q h i n _ => k q h i n
def TurnDoes (w : World) (ss : List Stmt) (cn : PySem.Str) (cs : Scope) (I J : (PySem.Str → Option Value) → Led → Prop) : Prop :=
  ∀ (_ : rw1 = rw1) (dp un : Nat) (gd : Option (List Code)) (a : Addr) (ccd : Value) (A₀ : Around) (base h₀ : Heap) (L : Addr) (m mg mb : PySem.Str → Option Value) (mean : ExcName → Option Value) (s : Shared) (E : Value → Shared → Prop) (news : Led),
    Below A₀ base [] h₀ → (KK w.params).In base → Top qv (looseW qv looseV) mean mg mb base → Fr h₀ L s.heap m → (KK w.params).In h₀ → News h₀ L s.heap news → Top qv (looseW qv looseV) mean mg mb h₀ → dp + 490 < recursionLimit → un + 6100 < cLine → PassesOwn (model pw w) (ktrTop dp un gd cn cs L a ccd [] []) (envX cn cs L a ccd []) E → I m news →
    wpAny (model pw w) (ktrTop dp un gd cn cs L a ccd [] []) (execs ss (envX cn cs L a ccd [])) (SegPost h₀ L s (fun m' n' => J m' n' ∧ Kc news n')) E s
theorem LawSt.it {W : List PySem.Str} {o : Op} {rd : List Dat} {m : PySem.Str → Option Value} {a b : Led} (h : LawSt W o rd m a) (hn : noLs rd = true) (k : ButIt a b) : LawSt W o rd m b := by
  obtain ⟨S, wa, cv, rv, m1, m2, m3, m4, hW, hD, hR, hS, hTb⟩ := h
  exact ⟨S, wa, cv, rv, m1, m2, m3, m4, hW.up (Up.butIt k), DatIn.up (Up.butIt k).all hD o.noL, DatIn.up (Up.butIt k).all hR (by simpa [noL] using hn), hS.butIt k, hTb.butIt k⟩
theorem LawSt.cons {W : List PySem.Str} {o : Op} {rd : List Dat} {m : PySem.Str → Option Value} {a : Led} {q : Addr × Obj} (h : LawSt W o rd m a) (hn : noLs rd = true) : LawSt W o rd m (q :: a) := by
  obtain ⟨S, wa, cv, rv, m1, m2, m3, m4, hW, hD, hR, hS, hTb⟩ := h
  have u : Up a (q :: a) := Up.sub fun _ h => .tail _ h
  exact ⟨S, wa, cv, rv, m1, m2, m3, m4, hW.up u, DatIn.up u.all hD o.noL, DatIn.up u.all hR (by simpa [noL] using hn), hS.cons, hTb.cons⟩
def lawNames : List PySem.Str := ["source", "words", "called", "rows"]
theorem LawSt.set {W : List PySem.Str} {o : Op} {rd : List Dat} {m : PySem.Str → Option Value} {a : Led} {x : PySem.Str} {v : Option Value} (h : LawSt W o rd m a) (hx : x ∉ lawNames) : LawSt W o rd (fun y => if y = x then v else m y) a := by
  obtain ⟨S, wa, cv, rv, m1, m2, m3, m4, r⟩ := h
  have ne : ∀ y ∈ lawNames, y ≠ x := fun y hy e => hx (e ▸ hy)
  exact ⟨S, wa, cv, rv, fr_at m1 (ne _ (by simp [lawNames])), fr_at m2 (ne _ (by simp [lawNames])), fr_at m3 (ne _ (by simp [lawNames])), fr_at m4 (ne _ (by simp [lawNames])), r⟩
theorem seg_unr {h₀ : Heap} {L I : Addr} {it : Obj} {s s' : Shared} {nw : Led} {f : Flow} {J P : (PySem.Str → Option Value) → Led → Prop} {Q : Flow → Shared → Prop} (hc : it.cls = .type "tuple_iterator") (hr : isRd it = false)
    (p : SegPost h₀ L s (fun m' n' => J m' n' ∧ Kc ((I, it) :: nw) n') f s') (k : ∀ m' n' n2, J m' n' → Kc ((I, it) :: nw) n' → But I n' n2 → ButIt n' n2 → P m' n2) : UnrPost h₀ L s I it P Q f s' := by
  obtain ⟨h', tk', m', n', rfl, rfl, F, N, hJ, hK⟩ := p
  have hm : (I, it) ∈ n' := hK _ (.head _) hr (by rw [hc]; exact fun z => nomatch z) (by rw [hc]; exact ty_ne (by decide))
  exact unrEnd_g F N hm (.inl hc) fun n2 b1 b2 => k m' n' n2 hJ hK b1 b2
theorem SegPost.mono {h₀ : Heap} {L : Addr} {s : Shared} {J J' : (PySem.Str → Option Value) → Led → Prop} (k : ∀ m n, J m n → J' m n) {f : Flow} {s' : Shared} (p : SegPost h₀ L s J f s') : SegPost h₀ L s J' f s' := by
  obtain ⟨h', tk', m', n', e1, e2, F, N, hJ⟩ := p
  exact ⟨h', tk', m', n', e1, e2, F, N, k _ _ hJ⟩
theorem kc_tup {a b : Led} (k : Kc a b) {x : Addr} {vs : List Value} {n : Nat} (h : (x, tupO vs n) ∈ a) : (x, tupO vs n) ∈ b := k _ h rfl (fun z => nomatch z) (ty_ne (by decide))
section
variable {prog : Program} {w : World} {A : Around} {E : Value → Shared → Prop} {s : Shared} {h₀ : Heap} {env : Env} {x : PySem.Str} {target : Expr} {body : List Stmt} {Q : Flow → Shared → Prop}
theorem turns_N {I ax : Addr} {xs : List Value} {k : Nat} (Inv : List Value → (PySem.Str → Option Value) → Led → Prop)
    (turn : ∀ v r m news, Inv (v :: r) m news → ∀ (it : Obj) h tk, it.cls = .type "tuple_iterator" → isRd it = false → Fr h₀ env.locals h (fun y => if y = x then some v else m y) → News h₀ env.locals h ((I, it) :: news) →
      wpAny (model prog w) A (execs body env) (SegPost h₀ env.locals { s with heap := h, toks := tk } (fun m' n' => (∀ n2, ButIt n' n2 → Inv r m' n2) ∧ Kc ((I, it) :: news) n')) E { s with heap := h, toks := tk })
    (fin : ∀ m news, Inv [] m news → ∀ h tk, Fr h₀ env.locals h m → News h₀ env.locals h news → Q .next { s with heap := h, toks := tk }) (vs : List Value) (m : PySem.Str → Option Value) (news : Led) (hm : (ax, tupO xs k) ∈ news) (hI : Inv vs m news) :
    TupRest prog w A E h₀ env x body Q s I (ax, tupO xs k) vs m news := by
  refine tupRest_ind (Inv := fun vs m n => (ax, tupO xs k) ∈ n ∧ Inv vs m n) (fun v r m nw hI it h tk hc hr F N => ?_) (fun m nw hI => fin m nw hI.2) vs m news ⟨hm, hI⟩
  refine wpAny_mono (turn v r m nw hI.2 it h tk hc hr F N) (fun f s' p => seg_unr hc hr p fun m' n' n2 hJ hK b1 b2 => ?_) fun _ _ z => z
  have hl := b2 _ (kc_tup hK (List.mem_cons_of_mem _ hI.1)) (ty_ne (by decide)) (ty_ne (by decide))
  exact ⟨hl, hl, hJ _ b2⟩
theorem turns_T {I ax : Addr} {xs : List Value} {k : Nat} (Inv : List Value → (PySem.Str → Option Value) → Led → Prop)
    (turn : ∀ v r m news, Inv (v :: r) m news → ∀ (it : Obj) h tk, it.cls = .type "tuple_iterator" → isRd it = false → Fr h₀ env.locals h m → News h₀ env.locals h ((I, it) :: news) →
      wpAny (model prog w) A (assign target env v) (fun _ s₂ => wpAny (model prog w) A (execs body env) (SegPost h₀ env.locals { s with heap := h, toks := tk } (fun m' n' => (∀ n2, ButIt n' n2 → Inv r m' n2) ∧ Kc ((I, it) :: news) n')) E s₂) E { s with heap := h, toks := tk })
    (fin : ∀ m news, Inv [] m news → ∀ h tk, Fr h₀ env.locals h m → News h₀ env.locals h news → Q .next { s with heap := h, toks := tk }) (vs : List Value) (m : PySem.Str → Option Value) (news : Led) (hm : (ax, tupO xs k) ∈ news) (hI : Inv vs m news) :
    TupRestT prog w A E h₀ env target body Q s I (ax, tupO xs k) vs m news := by
  refine tupRestT_ind (Inv := fun vs m n => (ax, tupO xs k) ∈ n ∧ Inv vs m n) (fun v r m nw hI it h tk hc hr F N => ?_) (fun m nw hI => fin m nw hI.2) vs m news ⟨hm, hI⟩
  refine wpAny_mono (turn v r m nw hI.2 it h tk hc hr F N) (fun _ s₂ q => wpAny_mono q (fun f s' p => seg_unr hc hr p fun m' n' n2 hJ hK b1 b2 => ?_) fun _ _ z => z) fun _ _ z => z
  have hl := b2 _ (kc_tup hK (List.mem_cons_of_mem _ hI.1)) (ty_ne (by decide)) (ty_ne (by decide))
  exact ⟨hl, hl, hJ _ b2⟩
end
def lostW (x : PySem.Str) : List PySem.Str := ["USING", "BY", "CONTENT", "7", "BY", "REFERENCE", x, "A"]
theorem lostW_eq {lo : Op} {x : PySem.Str} (hx : lo.words = [x]) : lostW x = [("USING" : PySem.Str), ("BY" : PySem.Str), ("CONTENT" : PySem.Str), ("7" : PySem.Str), ("BY" : PySem.Str), ("REFERENCE" : PySem.Str)] ++ lo.words ++ [("A" : PySem.Str)] := by rw [hx]; rfl
theorem vocs_3 (o : Op) {lo : Op} {x : PySem.Str} (hx : lo.words = [x]) : vocs (headW o ++ lostW x) = true := by
  rw [lostW_eq hx]
  exact vocs_app (vocs_head o) (vocs_app (vocs_app (by decide +kernel) (vocs_op lo)) (by decide +kernel))
theorem hears_3x (w : World) (o lo : Op) (hlo : lo = .n7 ∨ lo = .lQ ∨ lo = .z) {x : PySem.Str} (hx : lo.words = [x]) : Hears w (headW o ++ lostW x) (.inr ((headW o).length + 7)) := by
  rw [lostW_eq hx]
  exact hears_3 w o lo hlo
end Mine
end

section
open PySem PySem.W PyProof.Rows PySem.Calls PySem.Spec
set_option maxRecDepth 100000
namespace Mine
theorem reg_Lw1_0 : True := by
  (k_with "nt on" => ((fail_if_success walk_at "off_Lw1"); (skip)))
  (k_with "k_mem" => first | ((show _ ∈ _); ktr_member) | exact List.Mem.head _ | (refine' List.mem_cons_of_mem _ ?_; k_mem) | (refine sub_at (by assumption) ?_; k_mem) | (refine keep_at (by assumption) (by first | rfl | decide +kernel) ?_; k_mem) | (refine butC_at (by assumption) tup_nl ?_; k_mem))
  (k_with "k_mem" => ((fail_if_success walk_at "off_Lw1"); first | ((show _ ∈ _); ktr_member) | exact List.Mem.head _ | (refine' List.mem_cons_of_mem _ ?_; k_mem) | (refine sub_at (by assumption) ?_; k_mem) | (refine keepT_at (by assumption) (by first | rfl | assumption) (by first | exact it_nn (by with_reducible assumption) | exact (fun z => nomatch z)) ?_; k_mem) | (refine butC_at (by assumption) (by first | exact it_nl (by with_reducible assumption) | exact ty_ne (by decide)) ?_; k_mem) | (refine butIt_at (by assumption) (ty_ne (by decide)) (ty_ne (by decide)) ?_; k_mem)))
  (k_with "got" => (first | (refine got_dr ?_; intro x' t' n' h' tk' F' N' hx0' hxl' hS' hB' hC') | (refine got_pi ?_; intro v' n' h' tk' F' N' i9 hit' hS' hB' hC'; walk_at "picked") | (intro v' n' h' tk' F' N' hv'; walk_at "got more")))
  (k_with "call ref" => walk_at "heard")
  (k_with "Keep" => (intro q9 hq9 hi9; repeat' (first | exact hq9 | refine sub_at (by assumption) ?_ | refine keep_at (by assumption) hi9 ?_ | refine List.mem_cons_of_mem _ ?_ | refine but_at (by assumption) ?_ ?_ | refine ne_lt (by assumption) ?_ | refine ne_all (by first | assumption | exact And.right (by assumption)) ?_)))
  (k_with "Sub" => (intro q9 hq9; repeat' (first | exact hq9 | refine sub_at (by assumption) ?_ | refine List.mem_cons_of_mem _ ?_)))
  (k_with "exec For Name Name cons nil" => (k_here; (rename Fr _ _ _ _ => lF'); (with_unfolding_all refine' For_invVF lF' ?k1 ?k2 ?_; (case k1 => exact rfl); (case k2 => exact rfl); k_whole)))
  (k_with "exec For Name Call cons nil" => (k_here; (rename Fr _ _ _ _ => lF'); (with_unfolding_all refine' For_invVF lF' ?k1 ?k2 ?_; (case k1 => exact rfl); (case k2 => exact rfl); k_whole)))
  (k_with "pyIter ref" => ((with_reducible show wpAny _ _ (pyIter (Value.ref _)) (fun it s₂ => LoopAtV _ _ _ _ _ _ _ _ _ it s₂) _ _); k_here; (rename Fr _ _ _ _ => lF'); (rename News _ _ _ _ => lN'); (with_unfolding_all refine iter_tupHold (by rfl) lF' lN' (by k_mem) ?_)))
  (k_with "pyIter ref" => ((with_reducible show wpAny _ _ (pyIter (Value.ref _)) (fun it s₂ => LoopAtV _ _ _ _ _ _ _ _ _ it s₂) _ _); k_here; (rename IsRange _ _ _ _ _ _ _ _ => rgX); (rename Fr _ _ _ _ => lF'); (rename News _ _ _ _ => lN'); (with_unfolding_all refine iter_rangeHold (by rfl) rgX (by first | rfl | exact (Int.toNat_of_nonneg (by omega)).symm | assumption) (by first | assumption | omega) lF' lN' ?_)))
  (k_with "Kc1" => first | exact Kc.sub (fun _ h9 => List.mem_cons_of_mem _ h9) | exact Kc.butC (by with_reducible assumption) | exact Kc.sub (by with_reducible assumption) | exact Kc.keepT (by with_reducible assumption))
  (k_with "Kc" => first | with_reducible assumption | exact Kc.refl | (refine Kc.trans ?_ (by walk_at "Kc1"); walk_at "Kc"))
  (k_with "mem" => k_mem)
  (k_with "And" => ((with_reducible show Frag.In _ _ ∧ _); refine ⟨Frag.In.keeps X (Fr.keep (by k_asm)), ?_⟩; (try dsimp only [List.nil_append, List.cons_append])))
  (k_with "callWith ref nil nil" => (k_here; k_dflt (first | (refine' callWith_K0 ?k1 ?k2 ?_; (case k1 => exact Frag.In.keeps X (Fr.keep (by k_asm))); (case k2 => k_is); k_whole) | (refine' callWith_K ?k1 ?k2 ?_; (case k1 => k_asm); (case k2 => k_is); k_whole))))
  (k_with "call builtin:len" => (k_here; (with_reducible show wpAny _ _ (call (Value.builtin "len") [Value.ref _]) _ _ _); k_dflt (refine' len_N ?k1 ?k2 ?k3 ?_; (case k1 => k_asm); (case k2 => walk_at "TupN"); (case k3 => walk_at "len9"); k_whole); intro t9'; (try dsimp only)))
  (k_with "UnrEnd" => ((rename News _ _ _ _ => lN'); k_dflt (refine unrEnd_g (by assumption) lN' (by k_mem) (.inl (by assumption)) ?_); intro n2' hb2' hi2'))
  (k_with "Up1" => first | exact Up.sub (fun _ h9 => List.mem_cons_of_mem _ h9) | exact Up.butIt (by with_reducible assumption) | exact Up.butC (by with_reducible assumption) | exact Up.sub (by with_reducible assumption) | exact Up.keepT (by with_reducible assumption))
  (k_with "Up" => first | with_reducible assumption | exact Up.refl | (refine Up.trans ?_ (by walk_at "Up1"); walk_at "Up"))
  (k_with "TupW" => first | exact TupW.up (by with_reducible assumption) (by walk_at "Up") | exact TupN.W (TupN.up (by with_reducible assumption) (by walk_at "Up")) | exact ⟨_, _, List.mem_append_left _ (by k_mem), by repeat constructor⟩)
  (k_with "TupN" => first | exact TupN.up (by with_reducible assumption) (by walk_at "Up") | exact ⟨_, _, by k_mem, by repeat constructor⟩)
  (k_with "Src" => first | with_reducible assumption | (refine SrcAt.sub ?_ (fun _ h9 => List.mem_cons_of_mem _ h9); walk_at "Src") | (refine SrcAt.sub ?_ (by with_reducible assumption); walk_at "Src") | (refine SrcAt.butIt ?_ (by with_reducible assumption); walk_at "Src") | (refine SrcAt.keepT ?_ (by with_reducible assumption); walk_at "Src"))
  (k_with "TbL" => first | with_reducible assumption | (refine Tb.cons ?_; walk_at "TbL") | (refine Tb.butIt ?_ (by with_reducible assumption); walk_at "TbL") | (refine Tb.butC ?_ (by with_reducible assumption); walk_at "TbL") | (refine Tb.sub ?_ (by with_reducible assumption); walk_at "TbL"))
  (k_with "got more" => (obtain ⟨⟨x', t', hv', hx0', hxl'⟩, hS', hB', hC'⟩ := hv'; subst hv'))
  (k_with "got more" => (obtain ⟨⟨i9, hit'⟩, hS', hB', hC'⟩ := hv'; (walk_at "picked")))
  (k_with "got more" => (obtain ⟨tu', its', k', hv', hm', hl', hp', hs'⟩ := hv'; subst hv'))
  (k_with "binaryOp Add ref ref" => (k_here; (with_reducible show wpAny _ _ (binaryOp _ (Value.ref _) (Value.ref _)) _ _ _); k_dflt (refine' addN ?k1 ?k2 ?k3 ?k4 ?k7 ?k5 ?k6 ?_; (case k1 => k_asm); (case k2 => k_asm); (case k3 => k_asm); (case k4 => walk_at "TupN"); (case k5 => walk_at "TupW"); (case k6 => walk_at "len"); (case k7 => walk_at "len0"); k_whole); intro D' h' n' F' N' hs' hW'; (try dsimp only)))
  (k_with "heard" => (k_here; (with_reducible show wpAny _ _ (call (Value.ref 582) _) _ _ _); (try walk_at "fold"); k_dflt (refine' DoesH.use (heard_law ?w1 ?w2 ?w3 ?w4 ?w5) ?k1 ?x1 ?x2 ?k2 ?k3 ?k4 ?k5 ?k6 ?kd ?ku ?_; (case k1 => k_asm); (case x1 => k_asm); (case x2 => k_asm); (case k2 => k_asm); (case k3 => k_asm); (case k4 => k_asm); (case k5 => k_asm); (case k6 => first | rfl | assumption); (case w1 => walk_at "TupN"); (case w4 => walk_at "hears"); (case w2 => walk_at "vocs"); (case w3 => walk_at "len9"); (case w5 => walk_at "TbL"); (case kd => walk_at "room"); (case ku => walk_at "room"); k_whole); k_dflt (intro v' n' h' tk' F' N' hv'; obtain ⟨hKT', hTb', hv'⟩ := hv'; walk_at "heard got")))
  trivial
abbrev lawAt0 {n : PySem.Str} {p : Arguments} {x0 : Stmt} {r : List Stmt} {sc : Scope} (_ : defParts 71 = some (n, p, x0 :: r, sc)) : Stmt := x0
abbrev lawAt1 {n : PySem.Str} {p : Arguments} {x0 x1 : Stmt} {r : List Stmt} {sc : Scope} (_ : defParts 71 = some (n, p, x0 :: x1 :: r, sc)) : Stmt := x1
abbrev lawAt2 {n : PySem.Str} {p : Arguments} {x0 x1 x2 : Stmt} {r : List Stmt} {sc : Scope} (_ : defParts 71 = some (n, p, x0 :: x1 :: x2 :: r, sc)) : Stmt := x2
abbrev lawAt3 {n : PySem.Str} {p : Arguments} {x0 x1 x2 x3 : Stmt} {r : List Stmt} {sc : Scope} (_ : defParts 71 = some (n, p, x0 :: x1 :: x2 :: x3 :: r, sc)) : Stmt := x3
abbrev lawAt4 {n : PySem.Str} {p : Arguments} {x0 x1 x2 x3 x4 : Stmt} {r : List Stmt} {sc : Scope} (_ : defParts 71 = some (n, p, x0 :: x1 :: x2 :: x3 :: x4 :: r, sc)) : Stmt := x4
abbrev lawAt5 {n : PySem.Str} {p : Arguments} {x0 x1 x2 x3 x4 x5 : Stmt} {r : List Stmt} {sc : Scope} (_ : defParts 71 = some (n, p, x0 :: x1 :: x2 :: x3 :: x4 :: x5 :: r, sc)) : Stmt := x5
abbrev lawAt6 {n : PySem.Str} {p : Arguments} {x0 x1 x2 x3 x4 x5 x6 : Stmt} {r : List Stmt} {sc : Scope} (_ : defParts 71 = some (n, p, x0 :: x1 :: x2 :: x3 :: x4 :: x5 :: x6 :: r, sc)) : Stmt := x6
abbrev lawAt7 {n : PySem.Str} {p : Arguments} {x0 x1 x2 x3 x4 x5 x6 x7 : Stmt} {r : List Stmt} {sc : Scope} (_ : defParts 71 = some (n, p, x0 :: x1 :: x2 :: x3 :: x4 :: x5 :: x6 :: x7 :: r, sc)) : Stmt := x7
abbrev lawAt8 {n : PySem.Str} {p : Arguments} {x0 x1 x2 x3 x4 x5 x6 x7 x8 : Stmt} {r : List Stmt} {sc : Scope} (_ : defParts 71 = some (n, p, x0 :: x1 :: x2 :: x3 :: x4 :: x5 :: x6 :: x7 :: x8 :: r, sc)) : Stmt := x8
abbrev lawAt9 {n : PySem.Str} {p : Arguments} {x0 x1 x2 x3 x4 x5 x6 x7 x8 x9 : Stmt} {r : List Stmt} {sc : Scope} (_ : defParts 71 = some (n, p, x0 :: x1 :: x2 :: x3 :: x4 :: x5 :: x6 :: x7 :: x8 :: x9 :: r, sc)) : Stmt := x9
abbrev lawAt10 {n : PySem.Str} {p : Arguments} {x0 x1 x2 x3 x4 x5 x6 x7 x8 x9 x10 : Stmt} {r : List Stmt} {sc : Scope} (_ : defParts 71 = some (n, p, x0 :: x1 :: x2 :: x3 :: x4 :: x5 :: x6 :: x7 :: x8 :: x9 :: x10 :: r, sc)) : Stmt := x10
abbrev lawBd5 {n : PySem.Str} {p : Arguments} {x0 x1 x2 x3 x4 : Stmt} {tg it : Expr} {bd oe : List Stmt} {ps : Pos} {r : List Stmt} {sc : Scope} (_ : defParts 71 = some (n, p, x0 :: x1 :: x2 :: x3 :: x4 :: .For tg it bd oe ps :: r, sc)) : List Stmt := bd
abbrev lawBd8 {n : PySem.Str} {p : Arguments} {x0 x1 x2 x3 x4 x5 x6 x7 : Stmt} {tg it : Expr} {bd oe : List Stmt} {ps : Pos} {r : List Stmt} {sc : Scope} (_ : defParts 71 = some (n, p, x0 :: x1 :: x2 :: x3 :: x4 :: x5 :: x6 :: x7 :: .For tg it bd oe ps :: r, sc)) : List Stmt := bd
theorem reg_Lw1_1 : True := by
  (k_with "picked" => ((fail_if_success walk_at "off_Lw1"); (obtain ⟨o', hpo', hpa'⟩ := hP' _ (List.mem_of_getElem? hit'); (replace hpa' := hpa'.up (Up.butC hC')); obtain ⟨pa', wt', pk', tv', hv', hpm', hpW', hpD'⟩ := hpa'; subst hv')))
  (k_with "items" => ((fail_if_success walk_at "off_Lw1"); exact hT'))
  (k_with "binaryOp Add ref ref" => ((fail_if_success walk_at "off_Lw1"); (k_here; (with_reducible show wpAny _ _ (binaryOp _ (Value.ref tu') (Value.ref _)) _ _ _); k_dflt (refine addP (P := fun _ => True) (us := [.ref _]) (by k_asm) (by k_asm) (by k_asm) (List.mem_append_left _ (by k_mem)) ((hp'.mono fun _ _ => trivial).up (by walk_at "Up")) (List.mem_append_left _ (by k_mem)) ?_ (by simp; omega) ?_); (rotate_left 1); intro D' k' h' n' F' N' hs' hT' hP'; (try dsimp only))))
  (k_with "assign Tuple cons ref" => ((fail_if_success walk_at "off_Lw1"); (k_here; (with_reducible show wpAny _ _ (assign (Expr.Tuple _ _ _) _ (Value.ref pa')) _ _ _); k_dflt (refine' unpackN_ ?F ?N ?T ?k1 ?k2 ?k3 ?_; (case F => k_asm); (case N => k_asm); (case T => exact all_tup (by k_asm) (by k_asm) (by k_asm) hpm'); (case k1 => exact rfl); (case k2 => exact rfl); (case k3 => exact rfl); k_whole); intro h' F' N'; (try dsimp only))))
  (k_with "does" => ((fail_if_success walk_at "off_Lw1"); first | with_reducible exact refs_does _ _))
  (k_with "does" => ((fail_if_success walk_at "off_Lw1"); first | with_reducible exact pickA_does _ _ _ _ _ _ (by walk_at "Src") (by walk_at "items") (by simp <;> omega) (by simp <;> omega)))
  trivial
set_option maxHeartbeats 8000000 in
theorem st1 (w : World) : StDoes w (lawAt1 rfl) (lawN rfl) (lawSc rfl) (fun m n => ∃ S, m "source" = some (.ref S) ∧ SrcAt n S ∧ Tb n) (fun m n => ∃ S o wt tv, m "source" = some (.ref S) ∧ m "word" = some (.ref wt) ∧ m "called" = some tv ∧ TupW n wt (Op.words o) ∧ DatIn (All n) tv o.dat ∧ SrcAt n S ∧ Tb n) := by
  delta lawAt1 lawN lawSc
  unfold StDoes
  k_fill
  intro _ dp un gd a ccd A₀ base h₀ L m mg mb mean s E news B XB TB F X N T hd hu hE9 hI
  first | refine' (let e9 : PySem.Env := _; let A9 : PySem.Around := _; let qk := _; (?_ : wpAny _ A9 (exec _ e9) qk _ _)) | refine' (let e9 : PySem.Env := _; let A9 : PySem.Around := _; let qk := _; (?_ : wpAny _ A9 (execs _ e9) qk _ _))
  have hV9 : FnEnv e9 L := FnEnv.ofX rfl
  obtain ⟨S, m1, hS, hTb⟩ := hI
  replace F := fr1 F m1
  k_steps
  · exact SegPost.mk9 (by k_asm) (by k_asm) ⟨S, o', wt', tv', rfl, rfl, rfl, hpW', hpD', hS', by walk_at "TbL"⟩
  · intro v hv
    obtain rfl := List.mem_singleton.mp hv
    exact ⟨.lSUB, trivial, _, _, _, _, rfl, List.mem_append_left _ (by k_mem), ⟨_, _, List.mem_append_left _ (by k_mem), by repeat constructor⟩, .tuple (List.mem_append_left _ (by k_mem)) (.cons (.str _ _) (.cons (.bytes _ _) .nil))⟩
theorem reg_Lw1_2 : True := by
  (k_with "len" => ((fail_if_success walk_at "off_Lw1"); (have := op_len o; simp; omega)))
  (k_with "len0" => ((fail_if_success walk_at "off_Lw1"); decide))
  trivial
set_option maxHeartbeats 8000000 in
theorem st2 (w : World) : StDoes w (lawAt2 rfl) (lawN rfl) (lawSc rfl) (fun m n => ∃ S o wt tv, m "source" = some (.ref S) ∧ m "word" = some (.ref wt) ∧ m "called" = some tv ∧ TupW n wt (Op.words o) ∧ DatIn (All n) tv o.dat ∧ SrcAt n S ∧ Tb n) (fun m n => ∃ o, LawSt (headW o) o [] m n) := by
  delta lawAt2 lawN lawSc
  unfold StDoes
  k_fill
  intro _ dp un gd a ccd A₀ base h₀ L m mg mb mean s E news B XB TB F X N T hd hu hE9 hI
  first | refine' (let e9 : PySem.Env := _; let A9 : PySem.Around := _; let qk := _; (?_ : wpAny _ A9 (exec _ e9) qk _ _)) | refine' (let e9 : PySem.Env := _; let A9 : PySem.Around := _; let qk := _; (?_ : wpAny _ A9 (execs _ e9) qk _ _))
  have hV9 : FnEnv e9 L := FnEnv.ofX rfl
  obtain ⟨S, o, wt, tv, m1, m2, m3, hW, hD, hS, hTb⟩ := hI
  replace F := fr4 F m1 m2 m3 (rfl : m "" = _)
  k_steps
  exact SegPost.mk9 (by k_asm) (by k_asm) ⟨o, S, _, tv, _, rfl, rfl, rfl, rfl, TupN.cast (ws := [("CALL" : PySem.Str)] ++ o.words) (by walk_at "TupN") rfl, DatIn.up (Up.all (by walk_at "Up")) hD o.noL, .tuple (List.mem_append_left _ (by k_mem)) .nil, by walk_at "Src", by walk_at "TbL"⟩
theorem reg_Lw1_3 : True := by
  (k_with "execs cons Return nil" => ((fail_if_success walk_at "off_Lw1"); (exfalso; omega)))
  (k_with "vocs" => ((fail_if_success walk_at "off_Lw1"); exact vocs_app (vocs_head o) (by decide +kernel)))
  (k_with "hears" => ((fail_if_success walk_at "off_Lw1"); exact hears_1 w o))
  (k_with "len9" => ((fail_if_success walk_at "off_Lw1"); (have := op_len o; simp [headW]; omega)))
  (k_with "len0" => simp [headW])
  (k_with "len" => ((fail_if_success walk_at "off_Lw1"); (have := op_len o; simp [headW]; omega)))
  (k_with "heard got" => ((fail_if_success walk_at "off_Lw1"); ((have h9 := Or.resolve_left hv' (by rintro ⟨d9, q9, e9, _⟩; cases e9)); clear hv'; obtain ⟨i9, t9, e9, hv'⟩ := h9; subst hv'; cases e9; (try dsimp only))))
  trivial
set_option maxHeartbeats 8000000 in
theorem st3 (w : World) : StDoes w (lawAt3 rfl) (lawN rfl) (lawSc rfl) (fun m n => ∃ o, LawSt (headW o) o [] m n) (fun m n => ∃ o, LawSt (headW o) o [] m n) := by
  delta lawAt3 lawN lawSc
  unfold StDoes
  k_fill
  intro _ dp un gd a ccd A₀ base h₀ L m mg mb mean s E news B XB TB F X N T hd hu hE9 hI
  first | refine' (let e9 : PySem.Env := _; let A9 : PySem.Around := _; let qk := _; (?_ : wpAny _ A9 (exec _ e9) qk _ _)) | refine' (let e9 : PySem.Env := _; let A9 : PySem.Around := _; let qk := _; (?_ : wpAny _ A9 (execs _ e9) qk _ _))
  have hV9 : FnEnv e9 L := FnEnv.ofX rfl
  obtain ⟨o, S, wa, cv, rv, m1, m2, m3, m4, hW, hD, hR, hS, hTb⟩ := hI
  replace F := fr4 F m1 m2 m3 m4
  k_steps
  exact SegPost.mk9 (by k_asm) (by k_asm) ⟨o, S, wa, cv, rv, rfl, rfl, rfl, rfl, by walk_at "TupN", DatIn.up (Up.all (by walk_at "Up")) hD o.noL, DatIn.up (Up.all (by walk_at "Up")) hR rfl, by walk_at "Src", by walk_at "TbL"⟩
theorem reg_Lw1_4 : True := by
  (k_with "hears" => ((fail_if_success walk_at "off_Lw1"); exact hears_2 w o))
  trivial
set_option maxHeartbeats 8000000 in
theorem st4 (w : World) : StDoes w (lawAt4 rfl) (lawN rfl) (lawSc rfl) (fun m n => ∃ o, LawSt (headW o) o [] m n) (fun m n => ∃ o, LawSt (headW o) o [] m n) := by
  delta lawAt4 lawN lawSc
  unfold StDoes
  k_fill
  intro _ dp un gd a ccd A₀ base h₀ L m mg mb mean s E news B XB TB F X N T hd hu hE9 hI
  first | refine' (let e9 : PySem.Env := _; let A9 : PySem.Around := _; let qk := _; (?_ : wpAny _ A9 (exec _ e9) qk _ _)) | refine' (let e9 : PySem.Env := _; let A9 : PySem.Around := _; let qk := _; (?_ : wpAny _ A9 (execs _ e9) qk _ _))
  have hV9 : FnEnv e9 L := FnEnv.ofX rfl
  obtain ⟨o, S, wa, cv, rv, m1, m2, m3, m4, hW, hD, hR, hS, hTb⟩ := hI
  replace F := fr4 F m1 m2 m3 m4
  k_steps
  exact SegPost.mk9 (by k_asm) (by k_asm) ⟨o, S, wa, cv, rv, rfl, rfl, rfl, rfl, by walk_at "TupN", DatIn.up (Up.all (by walk_at "Up")) hD o.noL, DatIn.up (Up.all (by walk_at "Up")) hR rfl, by walk_at "Src", by walk_at "TbL"⟩
theorem reg_Lw1_5 : True := by
  (k_with "hears" => ((fail_if_success walk_at "off_Lw1"); exact hears_3x w o lo hlo hx))
  (k_with "vocs" => ((fail_if_success walk_at "off_Lw1"); exact vocs_3 o hx))
  (k_with "exec For Name Tuple cons nil" => ((fail_if_success walk_at "off_Lw1"); (k_here; (rename Fr _ _ _ _ => lF'); (with_unfolding_all refine' For_invVF (hE := by assumption) lF' ?k1 ?k2 ?_; (case k1 => exact rfl); (case k2 => exact rfl); k_whole))))
  trivial
set_option maxHeartbeats 8000000 in
theorem turn5 (w : World) (o lo : Op) (x : PySem.Str) (hlo : lo = .n7 ∨ lo = .lQ ∨ lo = .z) (hx : lo.words = [x]) : TurnDoes w (lawBd5 rfl) (lawN rfl) (lawSc rfl) (fun m n => LawSt (headW o) o [] m n ∧ ∃ t, m "lost" = some (.str x t)) (fun m n => LawSt (headW o) o [] m n) := by
  delta lawBd5 lawN lawSc
  unfold TurnDoes
  k_fill
  intro _ dp un gd a ccd A₀ base h₀ L m mg mb mean s E news B XB TB F X N T hd hu hE9 hI
  first | refine' (let e9 : PySem.Env := _; let A9 : PySem.Around := _; let qk := _; (?_ : wpAny _ A9 (exec _ e9) qk _ _)) | refine' (let e9 : PySem.Env := _; let A9 : PySem.Around := _; let qk := _; (?_ : wpAny _ A9 (execs _ e9) qk _ _))
  have hV9 : FnEnv e9 L := FnEnv.ofX rfl
  obtain ⟨⟨S, wa, cv, rv, m1, m2, m3, m4, hW, hD, hR, hS, hTb⟩, t5, m5⟩ := hI
  replace F := fr5 F m1 m2 m3 m4 m5
  k_steps
  exact SegPost.mk9 (by k_asm) (by k_asm) ⟨⟨S, wa, cv, rv, rfl, rfl, rfl, rfl, by walk_at "TupN", DatIn.up (Up.all (by walk_at "Up")) hD o.noL, DatIn.up (Up.all (by walk_at "Up")) hR rfl, by walk_at "Src", by walk_at "TbL"⟩, by walk_at "Kc"⟩
set_option maxHeartbeats 8000000 in
theorem st5 (w : World) : StDoes w (lawAt5 rfl) (lawN rfl) (lawSc rfl) (fun m n => ∃ o, LawSt (headW o) o [] m n) (fun m n => ∃ o, LawSt (headW o) o [] m n) := by
  delta lawAt5 lawN lawSc
  unfold StDoes
  k_fill
  intro _ dp un gd a ccd A₀ base h₀ L m mg mb mean s E news B XB TB F X N T hd hu hE9 hI
  first | refine' (let e9 : PySem.Env := _; let A9 : PySem.Around := _; let qk := _; (?_ : wpAny _ A9 (exec _ e9) qk _ _)) | refine' (let e9 : PySem.Env := _; let A9 : PySem.Around := _; let qk := _; (?_ : wpAny _ A9 (execs _ e9) qk _ _))
  have hV9 : FnEnv e9 L := FnEnv.ofX rfl
  obtain ⟨o, S, wa, cv, rv, m1, m2, m3, m4, hW, hD, hR, hS, hTb⟩ := hI
  replace F := fr4 F m1 m2 m3 m4
  k_steps
  refine Hold.mk fun I hI => ?_
  refine turns_N (Inv := fun vs m n => (∃ ws, StrsAre vs ws ∧ ∀ x ∈ ws, ∃ lo, (lo = .n7 ∨ lo = .lQ ∨ lo = .z) ∧ Op.words lo = [x]) ∧ LawSt (headW o) o [] m n) ?_ ?_ _ _ _ ?_ ?_
  · intro v r m nw hInv it h tk hc hr F N
    obtain ⟨⟨ws, hvs, hws⟩, hSt⟩ := hInv
    cases hvs with
    | cons x t hvs =>
      rename_i ws
      obtain ⟨lo, hlo, hx⟩ := hws _ (.head _)
      refine wpAny_mono (turn5 w o lo x hlo hx rfl dp un gd a ccd A₀ base h₀ L _ mg mb mean _ E _ B XB TB F X N T hd hu hE9 ⟨(hSt.cons rfl).set (by decide), t, rfl⟩) (fun f s' p => SegPost.mono (fun m' n' z => ⟨fun n2 k => ⟨⟨ws, hvs, fun x hx => hws x (.tail _ hx)⟩, z.1.it rfl k⟩, z.2⟩) p) fun _ _ z => z
  · intro m nw hInv h tk F N
    exact ⟨_, _, _, _, rfl, rfl, F, N, o, hInv.2⟩
  · k_mem
  · refine ⟨⟨["7", "!Q", "ZERO"], .cons _ _ (.cons _ _ (.cons _ _ .nil)), fun x hx => ?_⟩, S, wa, cv, rv, rfl, rfl, rfl, rfl, by walk_at "TupN", DatIn.up (Up.all (by walk_at "Up")) hD o.noL, DatIn.up (Up.all (by walk_at "Up")) hR rfl, by walk_at "Src", by walk_at "TbL"⟩
    simp only [List.mem_cons, List.not_mem_nil, or_false] at hx
    rcases hx with rfl | rfl | rfl
    · exact ⟨.n7, .inl rfl, rfl⟩
    · exact ⟨.lQ, .inr (.inl rfl), rfl⟩
    · exact ⟨.z, .inr (.inr rfl), rfl⟩
end Mine
theorem off_Lw1 : True := by
  (k_with "off_Lw1" => skip)
  trivial
end

section
open PySem PySem.W PyProof.Rows PySem.Calls PySem.Spec
set_option maxRecDepth 100000
namespace Mine
theorem reg_Lw2_0 : True := by
  (k_with "nt on" => ((fail_if_success walk_at "off_Lw2"); (skip)))
  (k_with "k_mem" => first | ((show _ ∈ _); ktr_member) | exact List.Mem.head _ | (refine' List.mem_cons_of_mem _ ?_; k_mem) | (refine sub_at (by assumption) ?_; k_mem) | (refine keepT_at (by assumption) (by first | rfl | assumption) (by first | exact it_nn (by with_reducible assumption) | exact (fun z => nomatch z)) ?_; k_mem) | (refine butC_at (by assumption) (by first | exact it_nl (by with_reducible assumption) | exact tup_nl | exact ty_ne (by decide)) ?_; k_mem) | (refine butIt_at (by assumption) (ty_ne (by decide)) (ty_ne (by decide)) ?_; k_mem))
  (k_with "heard" => ((fail_if_success walk_at "off_Lw2"); (k_here; (with_reducible show wpAny _ _ (call (Value.ref 582) _) _ _ _); (try walk_at "fold"); k_dflt (refine' DoesH.use (heard_law ?w1 ?w2 ?w3 ?w4 ?w5) ?k1 ?x1 ?x2 ?k2 ?k3 ?k4 ?k5 ?k6 ?kd ?ku ?_; (case k1 => k_asm); (case x1 => k_asm); (case x2 => k_asm); (case k2 => k_asm); (case k3 => k_asm); (case k4 => k_asm); (case k5 => k_asm); (case k6 => first | rfl | assumption); (case w1 => walk_at "TupN"); (case w4 => walk_at "hears"); (case w2 => walk_at "vocs"); (case w3 => walk_at "len9"); (case w5 => walk_at "TbL"); (case kd => walk_at "room"); (case ku => walk_at "room"); k_whole); intro v' n' h' tk' F' N' hv'; obtain ⟨hKT', hTb', hv'⟩ := hv'; walk_at "heard got")))
  trivial
def LawBr (W : List PySem.Str) (o : Op) (rd bd : List Dat) (m : PySem.Str → Option Value) (n : Led) : Prop := LawSt W o rd m n ∧ ∃ ba, m "branches" = some (.ref ba) ∧ DatIn (All n) (.ref ba) (.tuple bd)
theorem LawBr.mk9 {W : List PySem.Str} {o : Op} {rd bd : List Dat} {m : PySem.Str → Option Value} {n : Led} {S wa ba : Addr} {cv rv : Value} (m1 : m "source" = some (.ref S)) (m2 : m "words" = some (.ref wa)) (m3 : m "called" = some cv) (m4 : m "rows" = some rv) (hW : TupN n wa W) (hD : DatIn (All n) cv o.dat) (hR : DatIn (All n) rv (.tuple rd)) (hS : SrcAt n S) (hT : Tb n)
    (m5 : m "branches" = some (.ref ba)) (hB : DatIn (All n) (.ref ba) (.tuple bd)) : LawBr W o rd bd m n := ⟨⟨S, wa, cv, rv, m1, m2, m3, m4, hW, hD, hR, hS, hT⟩, ba, m5, hB⟩
theorem argsW_eq {xs : List Row} (h : xs ≠ []) (W : List PySem.Str) : W ++ [("USING" : PySem.Str)] ++ rowsWords xs = W ++ argsW xs := by
  cases xs with
  | nil => exact absurd rfl h
  | cons x xs => simp [argsW]
theorem rows_noL (m : PySem.Str) (xs : List Row) : noL (.tuple (rowsDat m xs)) = true := by simpa [noL] using rowsDat_noL m xs
theorem reg_Lw2_1 : True := by
  (k_with "len" => ((fail_if_success walk_at "off_Lw2"); first | (have := op_len o; have := words_len xs7; simp [headW]; omega) | (have := op_len o; simp [headW]; omega)))
  (k_with "Up1" => ((fail_if_success walk_at "off_Lw2"); first | exact Up.sub (fun _ h9 => List.mem_cons_of_mem _ h9) | exact Up.butIt (by with_reducible assumption) | exact Up.butC (by with_reducible assumption) | exact Up.sub (by with_reducible assumption) | exact Up.keepT (by with_reducible assumption) | with_reducible assumption))
  (k_with "got more" => ((fail_if_success walk_at "off_Lw2"); (obtain ⟨a7, wa7, ra7, xs7, k7, hv', hm7, hW7, hD7, hx7, hl7, hok7, hS7, hU7, hT7⟩ := hv'; subst hv')))
  (k_with "assign Tuple cons ref" => ((fail_if_success walk_at "off_Lw2"); (k_here; (with_reducible show wpAny _ _ (assign (Expr.Tuple _ _ _) _ (Value.ref a7)) _ _ _); k_dflt (refine' unpackN_ ?F ?N ?T ?k1 ?k2 ?k3 ?_; (case F => k_asm); (case N => k_asm); (case T => exact all_tup (by k_asm) (by k_asm) (by k_asm) (List.mem_append_left _ hm7)); (case k1 => exact rfl); (case k2 => exact rfl); (case k3 => exact rfl); k_whole); intro h' F' N'; (try dsimp only))))
  (k_with "does" => first | with_reducible exact draw_does _ _ _ _ _ (by walk_at "Src") (by first | with_reducible assumption | decide | omega))
  (k_with "does" => ((fail_if_success walk_at "off_Lw2"); first | with_reducible exact args_law _ _ _ (by walk_at "Src") (by walk_at "TbL")))
  trivial
set_option maxHeartbeats 8000000 in
theorem st6 (w : World) : StDoes w (lawAt6 rfl) (lawN rfl) (lawSc rfl) (fun m n => ∃ o, LawSt (headW o) o [] m n) (fun m n => ∃ o xs, xs.length ≤ 4 ∧ rowsOk "reference" xs ∧ LawSt (headW o ++ argsW xs) o (rowsDat "reference" xs) m n) := by
  delta lawAt6 lawN lawSc
  unfold StDoes
  k_fill
  intro _ dp un gd a ccd A₀ base h₀ L m mg mb mean s E news B XB TB F X N T hd hu hE9 hI
  first | refine' (let e9 : PySem.Env := _; let A9 : PySem.Around := _; let qk := _; (?_ : wpAny _ A9 (exec _ e9) qk _ _)) | refine' (let e9 : PySem.Env := _; let A9 : PySem.Around := _; let qk := _; (?_ : wpAny _ A9 (execs _ e9) qk _ _))
  have hV9 : FnEnv e9 L := FnEnv.ofX rfl
  obtain ⟨o, S, wa, cv, rv, m1, m2, m3, m4, hW, hD, hR, hS, hTb⟩ := hI
  replace F := fr4 F m1 m2 m3 m4
  k_steps
  · exact SegPost.mk9 (by k_asm) (by k_asm) ⟨o, xs7, hl7, hok7, S, _, cv, _, rfl, rfl, rfl, rfl, TupN.cast (ws := headW o ++ [("USING" : PySem.Str)] ++ rowsWords xs7) (by walk_at "TupN") (argsW_eq hx7 _), DatIn.up (Up.all (by walk_at "Up")) hD o.noL, DatIn.up (Up.all (by walk_at "Up")) hD7 (rows_noL _ _), by walk_at "Src", by walk_at "TbL"⟩
  · exact SegPost.mk9 (by k_asm) (by k_asm) ⟨o, [], by decide, trivial, S, wa, cv, rv, rfl, rfl, rfl, rfl, TupN.cast (ws := headW o) (by walk_at "TupN") (by simp [argsW]), DatIn.up (Up.all (by walk_at "Up")) hD o.noL, DatIn.up (Up.all (by walk_at "Up")) hR rfl, by walk_at "Src", by walk_at "TbL"⟩
set_option maxHeartbeats 8000000 in
theorem st7 (w : World) : StDoes w (lawAt7 rfl) (lawN rfl) (lawSc rfl) (fun m n => ∃ o xs, xs.length ≤ 4 ∧ rowsOk "reference" xs ∧ LawSt (headW o ++ argsW xs) o (rowsDat "reference" xs) m n) (fun m n => ∃ o xs, xs.length ≤ 4 ∧ rowsOk "reference" xs ∧ LawBr (headW o ++ argsW xs) o (rowsDat "reference" xs) [] m n) := by
  delta lawAt7 lawN lawSc
  unfold StDoes
  k_fill
  intro _ dp un gd a ccd A₀ base h₀ L m mg mb mean s E news B XB TB F X N T hd hu hE9 hI
  first | refine' (let e9 : PySem.Env := _; let A9 : PySem.Around := _; let qk := _; (?_ : wpAny _ A9 (exec _ e9) qk _ _)) | refine' (let e9 : PySem.Env := _; let A9 : PySem.Around := _; let qk := _; (?_ : wpAny _ A9 (execs _ e9) qk _ _))
  have hV9 : FnEnv e9 L := FnEnv.ofX rfl
  obtain ⟨o, xs, hx, hok, S, wa, cv, rv, m1, m2, m3, m4, hW, hD, hR, hS, hTb⟩ := hI
  replace F := fr4 F m1 m2 m3 m4
  k_steps
  exact SegPost.mk9 (by k_asm) (by k_asm) ⟨o, xs, hx, hok, ⟨S, wa, cv, rv, rfl, rfl, rfl, rfl, by walk_at "TupN", DatIn.up (Up.all (by walk_at "Up")) hD o.noL, DatIn.up (Up.all (by walk_at "Up")) hR (rows_noL _ _), by walk_at "Src", by walk_at "TbL"⟩, _, rfl, .tuple (List.mem_append_left _ (by k_mem)) .nil⟩
end Mine
theorem off_Lw2 : True := by
  (k_with "off_Lw2" => skip)
  trivial
end

section
open PySem PySem.W PyProof.Rows PySem.Calls PySem.Spec
set_option maxRecDepth 100000
namespace Mine
theorem fr7 {g h : Heap} {L : Addr} {m : PySem.Str → Option Value} {k1 k2 k3 k4 k5 k6 k7 : PySem.Str} {v1 v2 v3 v4 v5 v6 v7 : Option Value} (F : Fr g L h m) (h1 : m k1 = v1) (h2 : m k2 = v2) (h3 : m k3 = v3) (h4 : m k4 = v4) (h5 : m k5 = v5) (h6 : m k6 = v6) (h7 : m k7 = v7) :
    Fr g L h (fun y => if y = k1 then v1 else if y = k2 then v2 else if y = k3 then v3 else if y = k4 then v4 else if y = k5 then v5 else if y = k6 then v6 else if y = k7 then v7 else m y) := by
  refine Fr.congr (fr5 F h1 h2 h3 h4 h5) fun y => ?_
  by_cases e6 : y = k6
  · rw [e6, if_pos rfl, h6]
  rw [if_neg e6]
  by_cases e7 : y = k7
  · rw [e7, if_pos rfl, h7]
  rw [if_neg e7]
def excS (b : Bool) : PySem.Str := if b then "OVERFLOW" else "EXCEPTION"
theorem excW_eq (b : Bool) : excW b = [excS b] := by cases b <;> rfl
theorem exc_item {t1 t2 : Tok} {i : Nat} {v : Value} (h : [Value.str "EXCEPTION" t1, Value.str "OVERFLOW" t2][i]? = some v) : ∃ ov t, v = .str (excS ov) t := by
  match i, h with
  | 0, h => exact ⟨false, t1, (Option.some.inj h).symm⟩
  | 1, h => exact ⟨true, t2, (Option.some.inj h).symm⟩
theorem argsW_len (xs : List Row) : (argsW xs).length ≤ 10 * xs.length + 1 := by
  cases xs with
  | nil => simp [argsW]
  | cons x xs =>
    have := words_len (x :: xs)
    simp only [argsW, List.length_cons] at this ⊢
    omega
theorem onW_len (b : Bool) : (onW b).length ≤ 1 := by cases b <;> decide
theorem excW_len (b : Bool) : (excW b).length = 1 := by cases b <;> rfl
theorem fW_len (f : Option (Bool × Bool)) : (fW f).length ≤ 3 := by
  rcases f with _ | ⟨a, b⟩
  · decide
  · cases a <;> cases b <;> decide
theorem nW_len (f : Option Bool) : (nW f).length ≤ 4 := by
  rcases f with _ | a
  · decide
  · cases a <;> decide
theorem head_len4 (o : Op) : (headW o).length ≤ 5 := by
  have := op_len o
  simp only [headW, List.length_cons]
  omega
abbrev endCall : List PySem.Str := ["END-CALL"]
theorem hears_f (w : World) (o : Op) (xs : List Row) (hz : xs.length ≤ 4) (hok : rowsOk "reference" xs) (on ov : Bool) (W : List PySem.Str) (hW : W = headW o ++ argsW xs ++ onW on ++ [excS ov]) : Hears w (W ++ endCall) (.inr W.length) := by
  have h := hears_tail w o xs hz hok _ _ (tail_f on ov)
  have e : headW o ++ argsW xs ++ (onW on ++ excW ov ++ [("END-CALL" : PySem.Str)]) = W ++ endCall := by subst hW; rw [excW_eq]; simp only [List.append_assoc]
  rw [e] at h
  have e2 : outOf o xs (W ++ endCall) (headW o ++ argsW xs).length (.inr (onW on ++ excW ov).length) = .inr W.length := by
    simp only [outOf]
    congr 1
    subst hW
    rw [excW_eq]
    simp only [List.length_append]
    omega
  rw [e2] at h
  exact h
theorem vocs_f (o : Op) (xs : List Row) (on ov : Bool) (W : List PySem.Str) (hW : W = headW o ++ argsW xs ++ onW on ++ [excS ov]) : vocs (W ++ endCall) = true := by
  subst hW
  refine vocs_app (vocs_app (vocs_app (vocs_app (vocs_head o) (vocs_args xs)) ?_) ?_) (by decide +kernel)
  · cases on <;> decide +kernel
  · cases ov <;> decide +kernel
theorem hears_n (w : World) (o : Op) (xs : List Row) (hz : xs.length ≤ 4) (hok : rowsOk "reference" xs) (f : Option (Bool × Bool)) (on : Bool) (W : List PySem.Str) (hW : W = headW o ++ argsW xs ++ fW f ++ [("NOT" : PySem.Str)] ++ onW on ++ [("EXCEPTION" : PySem.Str)]) : Hears w (W ++ endCall) (.inr W.length) := by
  have h := hears_tail w o xs hz hok _ _ (tail_n f on)
  have e : headW o ++ argsW xs ++ (fW f ++ ([("NOT" : PySem.Str)] ++ onW on ++ [("EXCEPTION" : PySem.Str)]) ++ [("END-CALL" : PySem.Str)]) = W ++ endCall := by subst hW; simp only [List.append_assoc]
  rw [e] at h
  have e2 : outOf o xs (W ++ endCall) (headW o ++ argsW xs).length (.inr (fW f ++ ([("NOT" : PySem.Str)] ++ onW on ++ [("EXCEPTION" : PySem.Str)])).length) = .inr W.length := by
    simp only [outOf]
    congr 1
    subst hW
    simp only [List.length_append]
    omega
  rw [e2] at h
  exact h
theorem vocs_fW (f : Option (Bool × Bool)) : vocs (fW f) = true := by
  rcases f with _ | ⟨a, b⟩
  · rfl
  · cases a <;> cases b <;> decide +kernel
theorem vocs_nW (f : Option Bool) : vocs (nW f) = true := by
  rcases f with _ | a
  · rfl
  · cases a <;> decide +kernel
theorem vocs_n (o : Op) (xs : List Row) (f : Option (Bool × Bool)) (on : Bool) (W : List PySem.Str) (hW : W = headW o ++ argsW xs ++ fW f ++ [("NOT" : PySem.Str)] ++ onW on ++ [("EXCEPTION" : PySem.Str)]) : vocs (W ++ endCall) = true := by
  subst hW
  refine vocs_app (vocs_app (vocs_app (vocs_app (vocs_app (vocs_app (vocs_head o) (vocs_args xs)) (vocs_fW f)) (by decide +kernel)) ?_) (by decide +kernel)) (by decide +kernel)
  cases on <;> decide +kernel
theorem hears_e (w : World) (o : Op) (xs : List Row) (hz : xs.length ≤ 4) (hok : rowsOk "reference" xs) (f : Option (Bool × Bool)) (n : Option Bool) (e : Bool) (W : List PySem.Str) (hW : W = headW o ++ argsW xs ++ fW f ++ nW n ++ endW e) :
    Hears w W (.inl (.tuple [.str "call", o.dat, .tuple (rowsDat "reference" xs), .tuple (phsD (fK f ++ nK n))], W.length)) := by
  have h := hears_tail w o xs hz hok _ _ (tail_e f n e)
  have e : headW o ++ argsW xs ++ (fW f ++ nW n ++ endW e) = W := by subst hW; simp only [List.append_assoc]
  rw [e] at h
  exact h
theorem vocs_e (o : Op) (xs : List Row) (f : Option (Bool × Bool)) (n : Option Bool) (e : Bool) (W : List PySem.Str) (hW : W = headW o ++ argsW xs ++ fW f ++ nW n ++ endW e) : vocs W = true := by
  subst hW
  refine vocs_app (vocs_app (vocs_app (vocs_app (vocs_head o) (vocs_args xs)) (vocs_fW f)) (vocs_nW n)) ?_
  cases e <;> decide +kernel
section
variable {prog : Program} {w : World} {A : Around} {E : Value → Shared → Prop} {s : Shared} {h₀ : Heap} {L : Addr} {m : PySem.Str → Option Value} {news : Led} {Q : Value → Shared → Prop}
theorem last_N {l : Addr} {ws : List PySem.Str} {x : PySem.Str} {value slice : PySem.Expr} {u : Tok} (N : News h₀ L s.heap news) (hl : TupN news l (ws ++ [x])) (hz : ws.length ≤ 900) (h : ∀ t, Q (.str x t) s)
    (hs : subscripted slice false (.ref l) (.int (-1) u) = operate [.ref l, .int (-1) u] (getItem (.ref l) (.int (-1) u)) := by with_unfolding_all rfl) :
    wpAny (model prog w) A (subscriptTail value slice (.ref l) (.int (-1) u)) Q E s := by
  obtain ⟨vs, k, hm, hv⟩ := hl
  obtain ⟨us, t, rfl, hu⟩ := strs_snoc hv
  exact last_led N hm (by rw [hu.length]; omega) (h t) hs
theorem but1_N {value slice : PySem.Expr} {t : Addr} {ws : List PySem.Str} {x : PySem.Str} {u : Tok} (F : Fr h₀ L s.heap m) (N : News h₀ L s.heap news) (hl : TupN news t (ws ++ [x])) (hz : ws.length ≤ 900)
    (h : ∀ D h' n', Fr h₀ L h' m → News h₀ L h' n' → (∀ q ∈ news, q ∈ n') → TupN n' D ws → Q (.ref D) { s with heap := h' })
    (hs : subscripted slice false (.ref t) (.ref s.heap.objs.size) = operate [.ref s.heap.objs.size, .ref t] (getItem (.ref t) (.ref s.heap.objs.size)) := by with_unfolding_all rfl)
    (hg : ∀ r, letTemporaryGo value (.ref t) r = pure () := by intro _; with_unfolding_all rfl) :
    wpAny (model prog w) A (subscriptTail value slice (.ref t) (.ref s.heap.objs.size)) Q E { s with heap := s.heap.push { cls := .type "slice", data := .fields #[.none, .int (-1) u, .none] } } := by
  obtain ⟨vs, k, hm, hv⟩ := hl
  obtain ⟨us, t', rfl, hu⟩ := strs_snoc hv
  exact but1_led F N hm (by rw [hu.length]; omega) (fun D h' F' N' => h D h' _ F' N' (fun q hq => .tail _ hq) ⟨us, 0, .head _, hu⟩) hs hg
end
theorem hears_f1 (w : World) (o : Op) (xs : List Row) (hz : xs.length ≤ 4) (hok : rowsOk "reference" xs) (ov : Bool) : Hears w (headW o ++ argsW xs ++ [] ++ [("ON" : PySem.Str)] ++ [excS ov] ++ [("END-CALL" : PySem.Str)]) (.inr (headW o ++ argsW xs ++ [] ++ [("ON" : PySem.Str)] ++ [excS ov]).length) := hears_f w o xs hz hok true ov _ (by simp [onW])
theorem vocs_f1 (o : Op) (xs : List Row) (ov : Bool) : vocs (headW o ++ argsW xs ++ [] ++ [("ON" : PySem.Str)] ++ [excS ov] ++ [("END-CALL" : PySem.Str)]) = true := vocs_f o xs true ov _ (by simp [onW])
theorem hears_n1 (w : World) (o : Op) (xs : List Row) (hz : xs.length ≤ 4) (hok : rowsOk "reference" xs) (f : Option (Bool × Bool)) : Hears w (headW o ++ argsW xs ++ fW f ++ [("NOT" : PySem.Str)] ++ [("ON" : PySem.Str)] ++ [("EXCEPTION" : PySem.Str)] ++ [("END-CALL" : PySem.Str)]) (.inr (headW o ++ argsW xs ++ fW f ++ [("NOT" : PySem.Str)] ++ [("ON" : PySem.Str)] ++ [("EXCEPTION" : PySem.Str)]).length) := hears_n w o xs hz hok f true _ (by simp [onW])
theorem vocs_n1 (o : Op) (xs : List Row) (f : Option (Bool × Bool)) : vocs (headW o ++ argsW xs ++ fW f ++ [("NOT" : PySem.Str)] ++ [("ON" : PySem.Str)] ++ [("EXCEPTION" : PySem.Str)] ++ [("END-CALL" : PySem.Str)]) = true := vocs_n o xs f true _ (by simp [onW])
theorem hears_f0 (w : World) (o : Op) (xs : List Row) (hz : xs.length ≤ 4) (hok : rowsOk "reference" xs) (ov : Bool) : Hears w (headW o ++ argsW xs ++ [] ++ [] ++ [excS ov] ++ [("END-CALL" : PySem.Str)]) (.inr (headW o ++ argsW xs ++ [] ++ [] ++ [excS ov]).length) := hears_f w o xs hz hok false ov _ (by simp [onW])
theorem vocs_f0 (o : Op) (xs : List Row) (ov : Bool) : vocs (headW o ++ argsW xs ++ [] ++ [] ++ [excS ov] ++ [("END-CALL" : PySem.Str)]) = true := vocs_f o xs false ov _ (by simp [onW])
theorem hears_n0 (w : World) (o : Op) (xs : List Row) (hz : xs.length ≤ 4) (hok : rowsOk "reference" xs) (f : Option (Bool × Bool)) : Hears w (headW o ++ argsW xs ++ fW f ++ [("NOT" : PySem.Str)] ++ [] ++ [("EXCEPTION" : PySem.Str)] ++ [("END-CALL" : PySem.Str)]) (.inr (headW o ++ argsW xs ++ fW f ++ [("NOT" : PySem.Str)] ++ [] ++ [("EXCEPTION" : PySem.Str)]).length) := hears_n w o xs hz hok f false _ (by simp [onW])
theorem vocs_n0 (o : Op) (xs : List Row) (f : Option (Bool × Bool)) : vocs (headW o ++ argsW xs ++ fW f ++ [("NOT" : PySem.Str)] ++ [] ++ [("EXCEPTION" : PySem.Str)] ++ [("END-CALL" : PySem.Str)]) = true := vocs_n o xs f false _ (by simp [onW])
theorem exc_item2 {t1 t2 : Tok} {i : Nat} {v : Value} (h : [Value.str "EXCEPTION" t1, Value.str "OVERFLOW" t2][i]? = some v) : (∃ t, v = .str "EXCEPTION" t) ∨ ∃ t, v = .str "OVERFLOW" t := by
  match i, h with
  | 0, h => exact .inl ⟨t1, (Option.some.inj h).symm⟩
  | 1, h => exact .inr ⟨t2, (Option.some.inj h).symm⟩
theorem phs_noL (ks : List PySem.Str) : noLs (phsD ks) = true := by
  induction ks with
  | nil => rfl
  | cons k ks ih => simp only [phsD, List.map_cons, noLs] at ih ⊢; rw [ih]; rfl
theorem br_snoc {a : Led} {v : Value} {ks : List PySem.Str} {kk : PySem.Str} (h : DatIn a v (.tuple (phsD ks ++ [.tuple [.str kk, .tuple [.tuple [.str "continue"]]]]))) : DatIn a v (.tuple (phsD (ks ++ [kk]))) := by
  have e : phsD (ks ++ [kk]) = phsD ks ++ [.tuple [.str kk, .tuple [.tuple [.str "continue"]]]] := by simp only [phsD, List.map_append, List.map_cons, List.map_nil, bodyD]
  rw [e]; exact h
end Mine
end

section
open PySem PySem.W PyProof.Rows PySem.Calls PySem.Spec
set_option maxRecDepth 100000
namespace Mine
theorem reg_Lw3_0 : True := by
  (k_with "nt on" => ((fail_if_success walk_at "off_Lw3"); (skip)))
  (k_with "k_mem" => first | ((show _ ∈ _); ktr_member) | exact List.Mem.head _ | (refine' List.mem_cons_of_mem _ ?_; k_mem))
  (k_with "k_mem" => first | ((show _ ∈ _); ktr_member) | exact List.Mem.head _ | (refine' List.mem_cons_of_mem _ ?_; k_mem) | (refine sub_at (by assumption) ?_; k_mem) | (refine keep_at (by assumption) (by first | rfl | decide +kernel) ?_; k_mem) | (refine butC_at (by assumption) tup_nl ?_; k_mem))
  (k_with "k_mem" => ((fail_if_success walk_at "off_Lw3"); first | ((show _ ∈ _); ktr_member) | exact List.Mem.head _ | (refine' List.mem_cons_of_mem _ ?_; k_mem) | (refine sub_at (by assumption) ?_; k_mem) | (refine keepT_at (by assumption) (by first | rfl | assumption) (by first | exact it_nn (by with_reducible assumption) | exact (fun z => nomatch z)) ?_; k_mem) | (refine butC_at (by assumption) (by first | exact it_nl (by with_reducible assumption) | exact ty_ne (by decide)) ?_; k_mem) | (refine butIt_at (by assumption) (ty_ne (by decide)) (ty_ne (by decide)) ?_; k_mem)))
  (k_with "binaryOp Add ref ref" => ((fail_if_success walk_at "off_Lw3"); (k_here; (with_reducible show wpAny _ _ (binaryOp _ (Value.ref ba) (Value.ref _)) _ _ _); k_dflt (refine' addD ?k1 ?k2 ?k3 ?k4 ?n1 ?k5 ?n2 ?k6 ?_; (case k1 => k_asm); (case k2 => k_asm); (case k3 => k_asm); (case k4 => exact DatIn.up (Up.all (by walk_at "Up")) hB hBn); (case n1 => simpa [noL] using hBn); (case k5 => exact .tuple (List.mem_append_left _ (by k_mem)) (.cons (.tuple (List.mem_append_left _ (by k_mem)) (.cons (.str _ _) (.cons (.tuple (List.mem_append_left _ (by k_mem)) (.cons (.tuple (List.mem_append_left _ (by k_mem)) (.cons (.str _ _) .nil)) .nil)) .nil))) .nil)); (case n2 => rfl); (case k6 => (simp only [List.length_cons, List.length_nil]; omega)); k_whole); intro D' h' n' F' N' hs' hB'; (try dsimp only))))
  (k_with "len" => ((fail_if_success walk_at "off_Lw3"); (have q1 := head_len4 o; have q2 := argsW_len xs; have q3 := fW_len f; (try simp only [List.length_append, List.length_cons, List.length_nil]); omega)))
  (k_with "len9" => ((fail_if_success walk_at "off_Lw3"); (have q1 := head_len4 o; have q2 := argsW_len xs; have q3 := fW_len f; (try simp only [List.length_append, List.length_cons, List.length_nil]); omega)))
  (k_with "execs cons Return nil" => ((fail_if_success walk_at "off_Lw3"); (exfalso; omega)))
  (k_with "items" => ((fail_if_success walk_at "off_Lw3"); k_dflt (exact List.mem_append_left _ (List.Mem.head _))))
  (k_with "heard got" => ((fail_if_success walk_at "off_Lw3"); ((have h9 := Or.resolve_left hv' (by rintro ⟨d9, q9, e9, _⟩; cases e9)); clear hv'; obtain ⟨i9, t9, e9, hv'⟩ := h9; subst hv'; cases e9; (try dsimp only))))
  (k_with "picked" => ((fail_if_success walk_at "off_Lw3"); (obtain ⟨ov', tp', hpe'⟩ := exc_item hit'; subst hpe')))
  (k_with "hears" => ((fail_if_success walk_at "off_Lw3"); first | exact hears_f1 w o xs hx hok ov' | exact hears_f0 w o xs hx hok ov'))
  (k_with "vocs" => ((fail_if_success walk_at "off_Lw3"); first | exact vocs_f1 o xs ov' | exact vocs_f0 o xs ov'))
  (k_with "does" => ((fail_if_success walk_at "off_Lw3"); first | with_reducible exact pickA_does _ _ _ _ _ _ (by walk_at "Src") (by walk_at "items") (by simp <;> omega) (by simp <;> omega)))
  trivial
set_option maxHeartbeats 8000000 in
theorem turnF (w : World) (o : Op) (xs : List Row) (hx : xs.length ≤ 4) (hok : rowsOk "reference" xs) : TurnDoes w (lawBd8 rfl) (lawN rfl) (lawSc rfl) (fun m n => LawBr (headW o ++ argsW xs) o (rowsDat "reference" xs) [] m n ∧ (∃ kt, m "key" = some (.str "fault" kt)) ∧ ∃ ea, m "ahead" = some (.ref ea) ∧ TupW n ea []) (fun m n => ∃ f, LawBr (headW o ++ argsW xs ++ fW f) o (rowsDat "reference" xs) (phsD (fK f)) m n) := by
  delta lawBd8 lawN lawSc
  unfold TurnDoes
  k_fill
  intro _ dp un gd a ccd A₀ base h₀ L m mg mb mean s E news B XB TB F X N T hd hu hE9 hI
  first | refine' (let e9 : PySem.Env := _; let A9 : PySem.Around := _; let qk := _; (?_ : wpAny _ A9 (exec _ e9) qk _ _)) | refine' (let e9 : PySem.Env := _; let A9 : PySem.Around := _; let qk := _; (?_ : wpAny _ A9 (execs _ e9) qk _ _))
  have hV9 : FnEnv e9 L := FnEnv.ofX rfl
  obtain ⟨⟨⟨S, wa, cv, rv, m1, m2, m3, m4, hW, hD, hR, hS, hTb⟩, ba, m5, hB⟩, ⟨kt, m6⟩, ea, m7, hA⟩ := hI
  replace F := fr7 F m1 m2 m3 m4 m5 m6 m7
  have f : Option (Bool × Bool) := none
  have hBn : noL (.tuple []) = true := rfl
  k_steps
  · exact SegPost.mk9 (by k_asm) (by k_asm) ⟨⟨some (true, ov'), LawBr.mk9 rfl rfl rfl rfl (TupN.cast (ws := headW o ++ argsW xs ++ [] ++ [("ON" : PySem.Str)] ++ [excS ov'] ++ [("CONTINUE" : PySem.Str)]) (by walk_at "TupN") (by simp [fW, onW, excW_eq])) (DatIn.up (Up.all (by walk_at "Up")) hD o.noL) (DatIn.up (Up.all (by walk_at "Up")) hR (rows_noL _ _)) (by walk_at "Src") (by walk_at "TbL") rfl (DatIn.up (Up.all (by walk_at "Up")) hB' rfl)⟩, by walk_at "Kc"⟩
  · exact SegPost.mk9 (by k_asm) (by k_asm) ⟨⟨some (false, ov'), LawBr.mk9 rfl rfl rfl rfl (TupN.cast (ws := headW o ++ argsW xs ++ [] ++ [] ++ [excS ov'] ++ [("CONTINUE" : PySem.Str)]) (by walk_at "TupN") (by simp [fW, onW, excW_eq])) (DatIn.up (Up.all (by walk_at "Up")) hD o.noL) (DatIn.up (Up.all (by walk_at "Up")) hR (rows_noL _ _)) (by walk_at "Src") (by walk_at "TbL") rfl (DatIn.up (Up.all (by walk_at "Up")) hB' rfl)⟩, by walk_at "Kc"⟩
  · exact SegPost.mk9 (by k_asm) (by k_asm) ⟨⟨none, LawBr.mk9 rfl rfl rfl rfl (TupN.cast (ws := headW o ++ argsW xs) (by walk_at "TupN") (by simp [fW])) (DatIn.up (Up.all (by walk_at "Up")) hD o.noL) (DatIn.up (Up.all (by walk_at "Up")) hR (rows_noL _ _)) (by walk_at "Src") (by walk_at "TbL") rfl (DatIn.up (Up.all (by walk_at "Up")) hB hBn)⟩, by walk_at "Kc"⟩
theorem reg_Lw3_1 : True := by
  (k_with "picked" => ((fail_if_success walk_at "off_Lw3"); (rcases exc_item2 hit' with ⟨tp', hpe'⟩ | ⟨tp', hpe'⟩ <;> subst hpe')))
  (k_with "hears" => ((fail_if_success walk_at "off_Lw3"); first | exact hears_n1 w o xs hx hok f | exact hears_n0 w o xs hx hok f))
  (k_with "vocs" => ((fail_if_success walk_at "off_Lw3"); first | exact vocs_n1 o xs f | exact vocs_n0 o xs f))
  (k_with "subscriptTail Name UnaryOp ref int" => ((fail_if_success walk_at "off_Lw3"); (k_here; k_dflt (refine' last_N ?k1 ?k2 ?k3 ?_ ?k4; (case k1 => k_asm); (case k2 => walk_at "TupN"); (case k3 => walk_at "len9"); (case k4 => with_unfolding_all rfl); k_whole); intro t9'; (try dsimp only))))
  (k_with "subscriptTail Name Slice ref ref" => ((fail_if_success walk_at "off_Lw3"); (k_here; k_dflt (refine' but1_N ?k1 ?k5 ?k2 ?k3 ?_ ?k4 ?k6; (case k1 => k_asm); (case k5 => k_asm); (case k2 => walk_at "TupN"); (case k3 => walk_at "len9"); (case k4 => with_unfolding_all rfl); (case k6 => (intro _; with_unfolding_all rfl)); k_whole); intro D' h' n' F' N' hs' hW'; (try dsimp only))))
  trivial
set_option maxHeartbeats 8000000 in
theorem turnN (w : World) (o : Op) (xs : List Row) (hx : xs.length ≤ 4) (hok : rowsOk "reference" xs) (f : Option (Bool × Bool)) : TurnDoes w (lawBd8 rfl) (lawN rfl) (lawSc rfl) (fun m n => LawBr (headW o ++ argsW xs ++ fW f) o (rowsDat "reference" xs) (phsD (fK f)) m n ∧ (∃ kt, m "key" = some (.str "not fault" kt)) ∧ ∃ ea, m "ahead" = some (.ref ea) ∧ TupW n ea [("NOT" : PySem.Str)]) (fun m n => ∃ n9, LawBr (headW o ++ argsW xs ++ fW f ++ nW n9) o (rowsDat "reference" xs) (phsD (fK f ++ nK n9)) m n) := by
  delta lawBd8 lawN lawSc
  unfold TurnDoes
  k_fill
  intro _ dp un gd a ccd A₀ base h₀ L m mg mb mean s E news B XB TB F X N T hd hu hE9 hI
  first | refine' (let e9 : PySem.Env := _; let A9 : PySem.Around := _; let qk := _; (?_ : wpAny _ A9 (exec _ e9) qk _ _)) | refine' (let e9 : PySem.Env := _; let A9 : PySem.Around := _; let qk := _; (?_ : wpAny _ A9 (execs _ e9) qk _ _))
  have hV9 : FnEnv e9 L := FnEnv.ofX rfl
  obtain ⟨⟨⟨S, wa, cv, rv, m1, m2, m3, m4, hW, hD, hR, hS, hTb⟩, ba, m5, hB⟩, ⟨kt, m6⟩, ea, m7, hA⟩ := hI
  replace F := fr7 F m1 m2 m3 m4 m5 m6 m7
  have hBn : noL (.tuple (phsD (fK f))) = true := by simpa [noL] using phs_noL _
  have hBl : (phsD (fK f)).length ≤ 1 := by cases f <;> simp [fK, phsD]
  k_steps
  · exact SegPost.mk9 (by k_asm) (by k_asm) ⟨⟨some true, LawBr.mk9 rfl rfl rfl rfl (TupN.cast (ws := headW o ++ argsW xs ++ fW f ++ [("NOT" : PySem.Str)] ++ [("ON" : PySem.Str)] ++ [("EXCEPTION" : PySem.Str)] ++ [("CONTINUE" : PySem.Str)]) (by walk_at "TupN") (by simp [nW, onW])) (DatIn.up (Up.all (by walk_at "Up")) hD o.noL) (DatIn.up (Up.all (by walk_at "Up")) hR (rows_noL _ _)) (by walk_at "Src") (by walk_at "TbL") rfl (DatIn.up (Up.all (by walk_at "Up")) (br_snoc hB') (by simpa [noL] using phs_noL _))⟩, by walk_at "Kc"⟩
  · exact SegPost.mk9 (by k_asm) (by k_asm) ⟨⟨some true, LawBr.mk9 rfl rfl rfl rfl (TupN.cast (ws := headW o ++ argsW xs ++ fW f ++ [("NOT" : PySem.Str)] ++ [("ON" : PySem.Str)] ++ [("EXCEPTION" : PySem.Str)] ++ [("CONTINUE" : PySem.Str)]) (by walk_at "TupN") (by simp [nW, onW])) (DatIn.up (Up.all (by walk_at "Up")) hD o.noL) (DatIn.up (Up.all (by walk_at "Up")) hR (rows_noL _ _)) (by walk_at "Src") (by walk_at "TbL") rfl (DatIn.up (Up.all (by walk_at "Up")) (br_snoc hB') (by simpa [noL] using phs_noL _))⟩, by walk_at "Kc"⟩
  · exact SegPost.mk9 (by k_asm) (by k_asm) ⟨⟨some false, LawBr.mk9 rfl rfl rfl rfl (TupN.cast (ws := headW o ++ argsW xs ++ fW f ++ [("NOT" : PySem.Str)] ++ [] ++ [("EXCEPTION" : PySem.Str)] ++ [("CONTINUE" : PySem.Str)]) (by walk_at "TupN") (by simp [nW, onW])) (DatIn.up (Up.all (by walk_at "Up")) hD o.noL) (DatIn.up (Up.all (by walk_at "Up")) hR (rows_noL _ _)) (by walk_at "Src") (by walk_at "TbL") rfl (DatIn.up (Up.all (by walk_at "Up")) (br_snoc hB') (by simpa [noL] using phs_noL _))⟩, by walk_at "Kc"⟩
  · exact SegPost.mk9 (by k_asm) (by k_asm) ⟨⟨some false, LawBr.mk9 rfl rfl rfl rfl (TupN.cast (ws := headW o ++ argsW xs ++ fW f ++ [("NOT" : PySem.Str)] ++ [] ++ [("EXCEPTION" : PySem.Str)] ++ [("CONTINUE" : PySem.Str)]) (by walk_at "TupN") (by simp [nW, onW])) (DatIn.up (Up.all (by walk_at "Up")) hD o.noL) (DatIn.up (Up.all (by walk_at "Up")) hR (rows_noL _ _)) (by walk_at "Src") (by walk_at "TbL") rfl (DatIn.up (Up.all (by walk_at "Up")) (br_snoc hB') (by simpa [noL] using phs_noL _))⟩, by walk_at "Kc"⟩
  · exact SegPost.mk9 (by k_asm) (by k_asm) ⟨⟨none, LawBr.mk9 rfl rfl rfl rfl (TupN.cast (ws := headW o ++ argsW xs ++ fW f) (by walk_at "TupN") (by simp [nW])) (DatIn.up (Up.all (by walk_at "Up")) hD o.noL) (DatIn.up (Up.all (by walk_at "Up")) hR (rows_noL _ _)) (by walk_at "Src") (by walk_at "TbL") rfl (DatIn.up (Up.all (by walk_at "Up")) (show DatIn (All news) (.ref ba) (.tuple (phsD (fK f ++ nK none))) from by simpa [nK] using hB) (by simpa [noL] using phs_noL _))⟩, by walk_at "Kc"⟩
end Mine
theorem off_Lw3 : True := by
  (k_with "off_Lw3" => skip)
  trivial
end

section
open PySem PySem.W PyProof.Rows PySem.Calls PySem.Spec
set_option maxRecDepth 100000
namespace Mine
theorem reg_Lw4_0 : True := by
  (k_with "nt on" => ((fail_if_success walk_at "off_Lw4"); (skip)))
  (k_with "k_mem" => first | ((show _ ∈ _); ktr_member) | exact List.Mem.head _ | (refine' List.mem_cons_of_mem _ ?_; k_mem) | (refine sub_at (by assumption) ?_; k_mem) | (refine keepT_at (by assumption) (by first | rfl | assumption) (by first | exact it_nn (by with_reducible assumption) | exact (fun z => nomatch z)) ?_; k_mem) | (refine butC_at (by assumption) (by first | exact it_nl (by with_reducible assumption) | exact tup_nl | exact ty_ne (by decide)) ?_; k_mem) | (refine butIt_at (by assumption) (ty_ne (by decide)) (ty_ne (by decide)) ?_; k_mem))
  trivial
theorem Up.kc {a b : Led} (k : Kc a b) : Up a b := fun _ _ _ h => kc_tup k h
theorem LawBr.it {W : List PySem.Str} {o : Op} {rd bd : List Dat} {m : PySem.Str → Option Value} {a b : Led} (h : LawBr W o rd bd m a) (hn : noLs rd = true) (hb : noLs bd = true) (k : ButIt a b) : LawBr W o rd bd m b := by
  obtain ⟨h1, ba, h2, h3⟩ := h
  exact ⟨h1.it hn k, ba, h2, DatIn.up (Up.butIt k).all h3 (by simpa [noL] using hb)⟩
theorem LawBr.cons {W : List PySem.Str} {o : Op} {rd bd : List Dat} {m : PySem.Str → Option Value} {a : Led} {q : Addr × Obj} (h : LawBr W o rd bd m a) (hn : noLs rd = true) (hb : noLs bd = true) : LawBr W o rd bd m (q :: a) := by
  obtain ⟨h1, ba, h2, h3⟩ := h
  exact ⟨h1.cons hn, ba, h2, DatIn.up (Up.sub fun _ h => .tail _ h).all h3 (by simpa [noL] using hb)⟩
theorem LawBr.set {W : List PySem.Str} {o : Op} {rd bd : List Dat} {m : PySem.Str → Option Value} {a : Led} {x : PySem.Str} {v : Option Value} (h : LawBr W o rd bd m a) (hx : x ∉ ("branches" : PySem.Str) :: lawNames) : LawBr W o rd bd (fun y => if y = x then v else m y) a := by
  obtain ⟨h1, ba, h2, h3⟩ := h
  exact ⟨h1.set (fun z => hx (.tail _ z)), ba, fr_at h2 (fun e => hx (e ▸ .head _)), h3⟩
def BrLp (o : Op) (xs : List Row) (vs : List Value) (m : PySem.Str → Option Value) (n : Led) : Prop :=
  (∃ a1 k1 t1 e1 a2 k2 t2 e2, vs = [.ref a1, .ref a2] ∧ (a1, tupO [.str "fault" t1, .ref e1] k1) ∈ n ∧ TupW n e1 [] ∧ (a2, tupO [.str "not fault" t2, .ref e2] k2) ∈ n ∧ TupW n e2 [("NOT" : PySem.Str)] ∧ LawBr (headW o ++ argsW xs) o (rowsDat "reference" xs) [] m n) ∨
  (∃ a2 k2 t2 e2, vs = [.ref a2] ∧ (a2, tupO [.str "not fault" t2, .ref e2] k2) ∈ n ∧ TupW n e2 [("NOT" : PySem.Str)] ∧ ∃ f, LawBr (headW o ++ argsW xs ++ fW f) o (rowsDat "reference" xs) (phsD (fK f)) m n) ∨
  (vs = [] ∧ ∃ f n9, LawBr (headW o ++ argsW xs ++ fW f ++ nW n9) o (rowsDat "reference" xs) (phsD (fK f ++ nK n9)) m n)
theorem hold_in {P : Prop} (h : Hold P) : P := h.out
theorem reg_Lw4_1 : True := by
  (k_with "len" => ((fail_if_success walk_at "off_Lw4"); (have q1 := head_len4 o; have q2 := argsW_len xs; have q3 := fW_len f; (try simp only [List.length_append, List.length_cons, List.length_nil]); omega)))
  (k_with "len9" => ((fail_if_success walk_at "off_Lw4"); (have q1 := head_len4 o; have q2 := argsW_len xs; have q3 := fW_len f; (try simp only [List.length_append, List.length_cons, List.length_nil]); omega)))
  (k_with "execs cons Return nil" => ((fail_if_success walk_at "off_Lw4"); (exfalso; omega)))
  (k_with "items" => ((fail_if_success walk_at "off_Lw4"); k_dflt (exact List.mem_append_left _ (List.Mem.head _))))
  (k_with "heard got" => ((fail_if_success walk_at "off_Lw4"); ((have h9 := Or.resolve_left hv' (by rintro ⟨d9, q9, e9, _⟩; cases e9)); clear hv'; obtain ⟨i9, t9, e9, hv'⟩ := h9; subst hv'; cases e9; (try dsimp only))))
  (k_with "binaryOp Add ref ref" => ((fail_if_success walk_at "off_Lw4"); (k_here; (with_reducible show wpAny _ _ (binaryOp _ (Value.ref ba) (Value.ref _)) _ _ _); k_dflt (refine' addD ?k1 ?k2 ?k3 ?k4 ?n1 ?k5 ?n2 ?k6 ?_; (case k1 => k_asm); (case k2 => k_asm); (case k3 => k_asm); (case k4 => exact DatIn.up (Up.all (by walk_at "Up")) hB hBn); (case n1 => simpa [noL] using hBn); (case k5 => exact .tuple (List.mem_append_left _ (by k_mem)) (.cons (.tuple (List.mem_append_left _ (by k_mem)) (.cons (.str _ _) (.cons (.tuple (List.mem_append_left _ (by k_mem)) (.cons (.tuple (List.mem_append_left _ (by k_mem)) (.cons (.str _ _) .nil)) .nil)) .nil))) .nil)); (case n2 => rfl); (case k6 => (simp only [List.length_cons, List.length_nil]; omega)); k_whole); intro D' h' n' F' N' hs' hB'; (try dsimp only))))
  (k_with "exec For Tuple Tuple cons nil" => ((fail_if_success walk_at "off_Lw4"); (k_here; (rename Fr _ _ _ _ => lF'); (with_unfolding_all refine' For_turns (hE := by assumption) lF' ?_); k_whole)))
  (k_with "pyIter ref" => ((fail_if_success walk_at "off_Lw4"); ((with_reducible show wpAny _ _ (pyIter (Value.ref _)) (fun it s₂ => TurnsAt _ _ _ _ _ _ _ _ _ it s₂) _ _); k_here; (rename Fr _ _ _ _ => lF'); (rename News _ _ _ _ => lN'); k_dflt (refine iter_tupT (by rfl) lF' lN' (List.Mem.head _) ?_))))
  (k_with "execs cons If nil" => ((fail_if_success walk_at "off_Lw4"); (k_here; (with_reducible show wpAny _ _ (execs _ _) (SegPost _ _ _ _) _ _); refine hold_in ?_)))
  trivial
set_option maxHeartbeats 8000000 in
theorem st8 (w : World) : StDoes w (lawAt8 rfl) (lawN rfl) (lawSc rfl) (fun m n => ∃ o xs, xs.length ≤ 4 ∧ rowsOk "reference" xs ∧ LawBr (headW o ++ argsW xs) o (rowsDat "reference" xs) [] m n) (fun m n => ∃ o xs f n9, xs.length ≤ 4 ∧ rowsOk "reference" xs ∧ LawBr (headW o ++ argsW xs ++ fW f ++ nW n9) o (rowsDat "reference" xs) (phsD (fK f ++ nK n9)) m n) := by
  delta lawAt8 lawN lawSc
  unfold StDoes
  k_fill
  intro _ dp un gd a ccd A₀ base h₀ L m mg mb mean s E news B XB TB F X N T hd hu hE9 hI
  first | refine' (let e9 : PySem.Env := _; let A9 : PySem.Around := _; let qk := _; (?_ : wpAny _ A9 (exec _ e9) qk _ _)) | refine' (let e9 : PySem.Env := _; let A9 : PySem.Around := _; let qk := _; (?_ : wpAny _ A9 (execs _ e9) qk _ _))
  have hV9 : FnEnv e9 L := FnEnv.ofX rfl
  obtain ⟨o, xs, hx, hok, ⟨S, wa, cv, rv, m1, m2, m3, m4, hW, hD, hR, hS, hTb⟩, ba, m5, hB⟩ := hI
  replace F := fr5 F m1 m2 m3 m4 m5
  k_steps
  refine Hold.mk fun I hI => ?_
  refine turns_T (Inv := BrLp o xs) ?_ ?_ _ _ _ (List.Mem.head _) ?_
  · intro v r m nw hInv it h tk hc hr F N
    refine' (let G9 : Prop := _; (?_ : G9))
    rcases hInv with ⟨a1, k1, t1, e1, a2, k2, t2, e2, hv, h1, w1, h2, w2, hL⟩ | ⟨a2, k2, t2, e2, hv, h2, w2, f, hL⟩ | ⟨hv, _⟩
    · obtain ⟨rfl, rfl⟩ := List.cons.inj hv
      show wpAny _ _ _ _ _ _
      clear G9
      refine unpackN_ F N (News.isTup N (List.mem_cons_of_mem _ h1)) rfl rfl rfl ?_
      k_steps
      refine Hold.mk ?_
      rename Fr _ _ _ _ => F9
      rename News _ _ _ _ => N9
      refine wpAny_mono (turnF w o xs hx hok rfl dp un gd a ccd A₀ base h₀ L _ mg mb mean _ E _ B XB TB F9 X N9 T hd hu hE9 ⟨((hL.cons (rowsDat_noL _ _) rfl).set (by decide)).set (by decide), ⟨t1, rfl⟩, e1, rfl, w1.up (Up.sub fun _ h => .tail _ h)⟩) (fun f s' p => SegPost.mono (fun m' n' z => ⟨fun n2 k => .inr (.inl ?_), z.2⟩) p) fun _ _ z => z
      have u := Up.trans (Up.kc z.2) (Up.butIt k)
      obtain ⟨f, hf⟩ := z.1
      exact ⟨a2, k2, t2, e2, rfl, u _ _ _ (.tail _ h2), w2.up ((Up.sub fun _ h => .tail _ h).trans u), f, hf.it (rowsDat_noL _ _) (phs_noL _) k⟩
    · obtain ⟨rfl, rfl⟩ := List.cons.inj hv
      show wpAny _ _ _ _ _ _
      clear G9
      refine unpackN_ F N (News.isTup N (List.mem_cons_of_mem _ h2)) rfl rfl rfl ?_
      k_steps
      refine Hold.mk ?_
      rename Fr _ _ _ _ => F9
      rename News _ _ _ _ => N9
      refine wpAny_mono (turnN w o xs hx hok f rfl dp un gd a ccd A₀ base h₀ L _ mg mb mean _ E _ B XB TB F9 X N9 T hd hu hE9 ⟨((hL.cons (rowsDat_noL _ _) (phs_noL _)).set (by decide)).set (by decide), ⟨t2, rfl⟩, e2, rfl, w2.up (Up.sub fun _ h => .tail _ h)⟩) (fun g s' p => SegPost.mono (fun m' n' z => ⟨fun n2 k => .inr (.inr ?_), z.2⟩) p) fun _ _ z => z
      obtain ⟨n9, hf⟩ := z.1
      exact ⟨rfl, f, n9, hf.it (rowsDat_noL _ _) (phs_noL _) k⟩
    · cases hv
  · intro m nw hInv h tk F N
    rcases hInv with ⟨a1, k1, t1, e1, a2, k2, t2, e2, hv, _⟩ | ⟨a2, k2, t2, e2, hv, _⟩ | ⟨_, f, n9, hL⟩
    · cases hv
    · cases hv
    · exact ⟨_, _, _, _, rfl, rfl, F, N, o, xs, f, n9, hx, hok, hL⟩
  · refine .inl ⟨_, _, _, _, _, _, _, _, rfl, by k_mem, ⟨_, _, List.mem_append_left _ (by k_mem), .nil⟩, by k_mem, ⟨_, _, List.mem_append_left _ (by k_mem), .cons _ _ .nil⟩, ⟨S, wa, cv, rv, rfl, rfl, rfl, rfl, by walk_at "TupN", DatIn.up (Up.all (by walk_at "Up")) hD o.noL, DatIn.up (Up.all (by walk_at "Up")) hR (rows_noL _ _), by walk_at "Src", by walk_at "TbL"⟩, ba, rfl, DatIn.up (Up.all (by walk_at "Up")) hB rfl⟩
end Mine
theorem off_Lw4 : True := by
  (k_with "off_Lw4" => skip)
  trivial
end

section
open PySem PySem.W PyProof.Rows PySem.Calls PySem.Spec
set_option maxRecDepth 100000
namespace Mine
theorem reg_Lw5_0 : True := by
  (k_with "len" => ((fail_if_success walk_at "off_Lw5"); (have q1 := head_len4 o; have q2 := argsW_len xs; have q3 := fW_len f; have q4 := nW_len n9; (try simp only [List.length_append, List.length_cons, List.length_nil]); omega)))
  trivial
set_option maxHeartbeats 8000000 in
theorem st9 (w : World) : StDoes w (lawAt9 rfl) (lawN rfl) (lawSc rfl) (fun m n => ∃ o xs f n9, xs.length ≤ 4 ∧ rowsOk "reference" xs ∧ LawBr (headW o ++ argsW xs ++ fW f ++ nW n9) o (rowsDat "reference" xs) (phsD (fK f ++ nK n9)) m n) (fun m n => ∃ o xs f n9 e9, xs.length ≤ 4 ∧ rowsOk "reference" xs ∧ LawBr (headW o ++ argsW xs ++ fW f ++ nW n9 ++ endW e9) o (rowsDat "reference" xs) (phsD (fK f ++ nK n9)) m n) := by
  delta lawAt9 lawN lawSc
  unfold StDoes
  k_fill
  intro _ dp un gd a ccd A₀ base h₀ L m mg mb mean s E news B XB TB F X N T hd hu hE9 hI
  first | refine' (let e9 : PySem.Env := _; let A9 : PySem.Around := _; let qk := _; (?_ : wpAny _ A9 (exec _ e9) qk _ _)) | refine' (let e9 : PySem.Env := _; let A9 : PySem.Around := _; let qk := _; (?_ : wpAny _ A9 (execs _ e9) qk _ _))
  have hV9 : FnEnv e9 L := FnEnv.ofX rfl
  obtain ⟨o, xs, f, n9, hx, hok, ⟨S, wa, cv, rv, m1, m2, m3, m4, hW, hD, hR, hS, hTb⟩, ba, m5, hB⟩ := hI
  replace F := fr5 F m1 m2 m3 m4 m5
  k_steps
  · exact SegPost.mk9 (by k_asm) (by k_asm) ⟨o, xs, f, n9, true, hx, hok, ⟨S, _, cv, rv, rfl, rfl, rfl, rfl, TupN.cast (ws := headW o ++ argsW xs ++ fW f ++ nW n9 ++ [("END-CALL" : PySem.Str)]) (by walk_at "TupN") (by simp [endW]), DatIn.up (Up.all (by walk_at "Up")) hD o.noL, DatIn.up (Up.all (by walk_at "Up")) hR (rows_noL _ _), by walk_at "Src", by walk_at "TbL"⟩, ba, rfl, DatIn.up (Up.all (by walk_at "Up")) hB (by simpa [noL] using phs_noL _)⟩
  · exact SegPost.mk9 (by k_asm) (by k_asm) ⟨o, xs, f, n9, false, hx, hok, ⟨S, _, cv, rv, rfl, rfl, rfl, rfl, TupN.cast (ws := headW o ++ argsW xs ++ fW f ++ nW n9 ++ []) (by walk_at "TupN") (by simp [endW]), DatIn.up (Up.all (by walk_at "Up")) hD o.noL, DatIn.up (Up.all (by walk_at "Up")) hR (rows_noL _ _), by walk_at "Src", by walk_at "TbL"⟩, ba, rfl, DatIn.up (Up.all (by walk_at "Up")) hB (by simpa [noL] using phs_noL _)⟩
theorem shal_op (o : Op) : shal 6 o.dat = true := by cases o <;> rfl
theorem shal_rows : ∀ (m : PySem.Str) (xs : List Row), (rowsDat m xs).all (shal 7) = true
  | _, [] => rfl
  | m, x :: xs => by
    have h : shal 7 (.tuple [.str (x.1.mode m), x.2.dat]) = true := by
      show ([Dat.str (x.1.mode m), x.2.dat].all (shal 6)) = true
      simp [shal, shal_op]
    show (shal 7 (.tuple [.str (x.1.mode m), x.2.dat]) && (rowsDat (x.1.mode m) xs).all (shal 7)) = true
    rw [h, shal_rows]; rfl
theorem shal_phs (ks : List PySem.Str) : (phsD ks).all (shal 7) = true := by
  induction ks with
  | nil => rfl
  | cons k ks ih =>
    show (shal 7 (.tuple [.str k, bodyD]) && (phsD ks).all (shal 7)) = true
    rw [ih]; rfl
theorem shal_mono6 (o : Op) : shal 8 o.dat = true := by cases o <;> rfl
theorem shal_tree (o : Op) (xs : List Row) (ks : List PySem.Str) : shal 10 (.tuple [.tuple [.str "call", o.dat, .tuple (rowsDat "reference" xs), .tuple (phsD ks)], .bool true]) = true := by
  have h1 : shal 8 (.tuple (rowsDat "reference" xs)) = true := shal_rows _ _
  have h2 : shal 8 (.tuple (phsD ks)) = true := shal_phs _
  have h3 : shal 9 (.tuple [.str "call", o.dat, .tuple (rowsDat "reference" xs), .tuple (phsD ks)]) = true := by
    show ([Dat.str "call", o.dat, .tuple (rowsDat "reference" xs), .tuple (phsD ks)].all (shal 8)) = true
    rw [List.all_cons, List.all_cons, List.all_cons, List.all_cons, h1, h2, shal_mono6]
    rfl
  show ([Dat.tuple [.str "call", o.dat, .tuple (rowsDat "reference" xs), .tuple (phsD ks)], .bool true].all (shal 9)) = true
  rw [List.all_cons, List.all_cons, h3]
  rfl
def RetPost (h₀ : Heap) (L : Addr) (s : Shared) (fl : Flow) (s' : Shared) : Prop :=
  ∃ h' tk' m' n', fl = .ret (.bool true) ∧ s' = { s with heap := h', toks := tk' } ∧ Fr h₀ L h' m' ∧ News h₀ L h' n' ∧ Tb n'
def RtDoes (w : World) (st : Stmt) (cn : PySem.Str) (cs : Scope) (I : (PySem.Str → Option Value) → Led → Prop) : Prop :=
  ∀ (_ : rw1 = rw1) (dp un : Nat) (gd : Option (List Code)) (a : Addr) (ccd : Value) (A₀ : Around) (base h₀ : Heap) (L : Addr) (m mg mb : PySem.Str → Option Value) (mean : ExcName → Option Value) (s : Shared) (E : Value → Shared → Prop) (news : Led),
    Below A₀ base [] h₀ → (KK w.params).In base → Top qv (looseW qv looseV) mean mg mb base → Fr h₀ L s.heap m → (KK w.params).In h₀ → News h₀ L s.heap news → Top qv (looseW qv looseV) mean mg mb h₀ → dp + 490 < recursionLimit → un + 6100 < cLine → PassesOwn (model pw w) (ktrTop dp un gd cn cs L a ccd [] []) (envX cn cs L a ccd []) E → I m news →
    wpAny (model pw w) (ktrTop dp un gd cn cs L a ccd [] []) (exec st (envX cn cs L a ccd [])) (RetPost h₀ L s) E s
theorem dat_lt {n : Led} {D a : Addr} {ds : List Dat} (h : DatIn n (.ref a) (.tuple ds)) (l : ∀ p ∈ n, p.1 < D) : a ≠ D := by
  cases h with
  | tuple hm _ => exact Nat.ne_of_lt (l _ hm)
theorem reg_Lw5_1 : True := by
  (k_with "compareOp Eq ref ref" => ((fail_if_success walk_at "off_Lw5"); (k_here; refine hold_in ?_)))
  (k_with "hears" => ((fail_if_success walk_at "off_Lw5"); exact hears_e w o xs hx hok f n9 e9 _ rfl))
  (k_with "vocs" => ((fail_if_success walk_at "off_Lw5"); exact vocs_e o xs f n9 e9 _ rfl))
  (k_with "len9" => ((fail_if_success walk_at "off_Lw5"); (have q1 := head_len4 o; have q2 := argsW_len xs; have q3 := fW_len f; have q4 := nW_len n9; have q5 : (endW e9).length ≤ 1 := (by cases e9 <;> decide); (try simp only [List.length_append, List.length_cons, List.length_nil]); omega)))
  (k_with "heard got" => ((fail_if_success walk_at "off_Lw5"); ((have h9 := Or.resolve_right hv' (by rintro ⟨i9, t9, e9, _⟩; cases e9)); clear hv'; obtain ⟨d8, q8, e8, hv'⟩ := h9; cases e8; obtain ⟨va', hv9', hvd'⟩ := dat_tup hv'; subst hv9'; (try dsimp only))))
  trivial
set_option maxHeartbeats 8000000 in
theorem st10 (w : World) : RtDoes w (lawAt10 rfl) (lawN rfl) (lawSc rfl) (fun m n => ∃ o xs f n9 e9, xs.length ≤ 4 ∧ rowsOk "reference" xs ∧ LawBr (headW o ++ argsW xs ++ fW f ++ nW n9 ++ endW e9) o (rowsDat "reference" xs) (phsD (fK f ++ nK n9)) m n) := by
  delta lawAt10 lawN lawSc
  unfold RtDoes
  k_fill
  intro _ dp un gd a ccd A₀ base h₀ L m mg mb mean s E news B XB TB F X N T hd hu hE9 hI
  first | refine' (let e9 : PySem.Env := _; let A9 : PySem.Around := _; let qk := _; (?_ : wpAny _ A9 (exec _ e9) qk _ _)) | refine' (let e9 : PySem.Env := _; let A9 : PySem.Around := _; let qk := _; (?_ : wpAny _ A9 (execs _ e9) qk _ _))
  have hV9 : FnEnv e9 L := FnEnv.ofX rfl
  obtain ⟨o, xs, f, n9, e9, hx, hok, ⟨S, wa, cv, rv, m1, m2, m3, m4, hW, hD, hR, hS, hTb⟩, ba, m5, hB⟩ := hI
  replace F := fr5 F m1 m2 m3 m4 m5
  k_steps
  refine Hold.mk ?_
  rename Fr _ _ _ _ => F9
  rename News _ _ _ _ => N9
  rw [beq_self_eq_true] at hvd'
  have XK := Frag.In.keeps X F9.keep
  refine eq_tups (n := 10) (all_get N9 XK) (all_get N9 XK) (shal_tree o xs (fK f ++ nK n9)) (DatIn.up (fun _ _ _ h => List.mem_append_left _ ((by walk_at "Up" : Up _ _) _ _ _ h)) hvd' ?_) (.tuple (List.mem_append_left _ (by k_mem)) (.cons (.tuple (List.mem_append_left _ (by k_mem)) (.cons (.str _ _) (.cons (DatIn.up (Up.all (by walk_at "Up")) hD o.noL) (.cons (DatIn.up (Up.all (by walk_at "Up")) hR (rows_noL _ _)) (.cons (DatIn.up (Up.all (by walk_at "Up")) hB (by simpa [noL] using phs_noL _)) .nil))))) (.cons (.bool _) .nil))) ?_ (show un + 10 < cLine by omega) ?_
  · simp [noL, noLs, Op.noL, rowsDat_noL, phs_noL]
  · refine dat_lt (n := _) hvd' ?_
    intro p hp
    rename _ ∧ AllLt _ _ => l9
    exact allLt_at l9.2 p hp
  · k_steps
    exact ⟨_, _, _, _, rfl, rfl, by k_asm, by k_asm, by walk_at "TbL"⟩
end Mine
theorem off_Lw5 : True := by
  (k_with "off_Lw5" => skip)
  trivial
end

section
open PySem PySem.W PyProof.Rows PySem.Calls PySem.Spec
set_option maxRecDepth 100000
namespace Mine
theorem reg_Lw6_0 : True := by
  (k_with "nt on" => ((fail_if_success walk_at "off_Lw6"); (skip)))
  (k_with "call ref" => ((fail_if_success walk_at "off_Lw6"); (k_here; (with_reducible show wpAny _ _ (call (Value.ref 527) _) _ _ _); (try walk_at "fold"); k_dflt (refine' source_use hI9 hz9 ?k1 ?k2 ?k3 ?k4 ?k5 ?k6 ?kd ?ku ?kL ?_; (case k1 => k_asm); (case k2 => k_asm); (case k3 => k_asm); (case k4 => k_asm); (case k5 => k_asm); (case k6 => first | rfl | assumption); (case kd => walk_at "room"); (case ku => walk_at "room"); (case kL => assumption); k_whole); k_dflt (intro v' n' h' tk' F' N' hv'; obtain ⟨S', hv9', hS', hs'⟩ := hv'; subst hv9'; (try dsimp only)))))
  trivial
set_option maxHeartbeats 8000000 in
theorem st0 (w : World) (C : Addr) (vs : List Value) (is : List Int) (hI9 : IntsAre vs is) (hz9 : is.length ≤ 63) : ∀ (_ : rw1 = rw1) (dp un : Nat) (gd : Option (List Code)) (a : Addr) (ccd : Value) (A₀ : Around) (base h₀ : Heap) (L : Addr) (m mg mb : PySem.Str → Option Value) (mean : ExcName → Option Value) (s : Shared) (E : Value → Shared → Prop) (news : Led),
    Below A₀ base [] h₀ → (KK w.params).In base → Top qv (looseW qv looseV) mean mg mb base → Fr h₀ L s.heap m → (KK w.params).In h₀ → News h₀ L s.heap news → Top qv (looseW qv looseV) mean mg mb h₀ → dp + 490 < recursionLimit → un + 6100 < cLine → PassesOwn (model pw w) (ktrTop dp un gd (lawN rfl) (lawSc rfl) L a ccd [] []) (envX (lawN rfl) (lawSc rfl) L a ccd []) E → h₀.IsList C vs.toArray → m "script" = some (.ref C) → Tb news →
    wpAny (model pw w) (ktrTop dp un gd (lawN rfl) (lawSc rfl) L a ccd [] []) (exec (lawAt0 rfl) (envX (lawN rfl) (lawSc rfl) L a ccd [])) (SegPost h₀ L s (fun m n => ∃ S, m "source" = some (.ref S) ∧ SrcAt n S ∧ Tb n)) E s := by
  delta lawAt0 lawN lawSc
  k_fill
  intro _ dp un gd a ccd A₀ base h₀ L m mg mb mean s E news B XB TB F X N T hd hu hE9 hL9 m1 hTb
  replace F := fr1 F m1
  k_steps
  exact ⟨_, _, _, _, rfl, rfl, by k_asm, by k_asm, S', rfl, hS', by walk_at "TbL"⟩
theorem execs_seg {w : World} {A : Around} {st : Stmt} {rest : List Stmt} {env : Env} {h₀ : Heap} {L : Addr} {s s₀ : Shared} {E : Value → Shared → Prop} {J : (PySem.Str → Option Value) → Led → Prop} (h : wpAny (model pw w) A (exec st env) (SegPost h₀ L s J) E s) (hs : ∃ g t, s = { s₀ with heap := g, toks := t })
    (k : ∀ h' tk' m' n', Fr h₀ L h' m' → News h₀ L h' n' → J m' n' → wpAny (model pw w) A (execs rest env) (RetPost h₀ L s₀) E { s₀ with heap := h', toks := tk' }) : wpAny (model pw w) A (execs (st :: rest) env) (RetPost h₀ L s₀) E s := by
  refine wpAny_execs_cons (wpAny_mono h (fun fl s' p => ?_) fun _ _ z => z)
  obtain ⟨h', tk', m', n', rfl, rfl, F, N, hJ⟩ := p
  obtain ⟨g, t, rfl⟩ := hs
  exact k h' tk' m' n' F N hJ
set_option maxHeartbeats 8000000 in
theorem law_body (w : World) (C : Addr) (vs : List Value) (is : List Int) (hI9 : IntsAre vs is) (hz9 : is.length ≤ 63) : ∀ (_ : rw1 = rw1) (dp un : Nat) (gd : Option (List Code)) (a : Addr) (ccd : Value) (A₀ : Around) (base h₀ : Heap) (L : Addr) (m mg mb : PySem.Str → Option Value) (mean : ExcName → Option Value) (s : Shared) (E : Value → Shared → Prop) (news : Led),
    Below A₀ base [] h₀ → (KK w.params).In base → Top qv (looseW qv looseV) mean mg mb base → Fr h₀ L s.heap m → (KK w.params).In h₀ → News h₀ L s.heap news → Top qv (looseW qv looseV) mean mg mb h₀ → dp + 490 < recursionLimit → un + 6100 < cLine → PassesOwn (model pw w) (ktrTop dp un gd (lawN rfl) (lawSc rfl) L a ccd [] []) (envX (lawN rfl) (lawSc rfl) L a ccd []) E → h₀.IsList C vs.toArray → m "script" = some (.ref C) → Tb news →
    wpAny (model pw w) (ktrTop dp un gd (lawN rfl) (lawSc rfl) L a ccd [] []) (execs (lawB rfl) (envX (lawN rfl) (lawSc rfl) L a ccd [])) (RetPost h₀ L s) E s := by
  intro _ dp un gd a ccd A₀ base h₀ L m mg mb mean s E news B XB TB F X N T hd hu hE9 hL9 m1 hTb
  refine execs_seg (st0 w C vs is hI9 hz9 rfl dp un gd a ccd A₀ base h₀ L m mg mb mean s E news B XB TB F X N T hd hu hE9 hL9 m1 hTb) ⟨_, _, rfl⟩ fun h1 t1 m1 n1 F N J => ?_
  refine execs_seg (st1 w rfl dp un gd a ccd A₀ base h₀ L _ mg mb mean _ E _ B XB TB F X N T hd hu hE9 J) ⟨_, _, rfl⟩ fun h1 t1 m1 n1 F N J => ?_
  refine execs_seg (st2 w rfl dp un gd a ccd A₀ base h₀ L _ mg mb mean _ E _ B XB TB F X N T hd hu hE9 J) ⟨_, _, rfl⟩ fun h1 t1 m1 n1 F N J => ?_
  refine execs_seg (st3 w rfl dp un gd a ccd A₀ base h₀ L _ mg mb mean _ E _ B XB TB F X N T hd hu hE9 J) ⟨_, _, rfl⟩ fun h1 t1 m1 n1 F N J => ?_
  refine execs_seg (st4 w rfl dp un gd a ccd A₀ base h₀ L _ mg mb mean _ E _ B XB TB F X N T hd hu hE9 J) ⟨_, _, rfl⟩ fun h1 t1 m1 n1 F N J => ?_
  refine execs_seg (st5 w rfl dp un gd a ccd A₀ base h₀ L _ mg mb mean _ E _ B XB TB F X N T hd hu hE9 J) ⟨_, _, rfl⟩ fun h1 t1 m1 n1 F N J => ?_
  refine execs_seg (st6 w rfl dp un gd a ccd A₀ base h₀ L _ mg mb mean _ E _ B XB TB F X N T hd hu hE9 J) ⟨_, _, rfl⟩ fun h1 t1 m1 n1 F N J => ?_
  refine execs_seg (st7 w rfl dp un gd a ccd A₀ base h₀ L _ mg mb mean _ E _ B XB TB F X N T hd hu hE9 J) ⟨_, _, rfl⟩ fun h1 t1 m1 n1 F N J => ?_
  refine execs_seg (st8 w rfl dp un gd a ccd A₀ base h₀ L _ mg mb mean _ E _ B XB TB F X N T hd hu hE9 J) ⟨_, _, rfl⟩ fun h1 t1 m1 n1 F N J => ?_
  refine execs_seg (st9 w rfl dp un gd a ccd A₀ base h₀ L _ mg mb mean _ E _ B XB TB F X N T hd hu hE9 J) ⟨_, _, rfl⟩ fun h1 t1 m1 n1 F N J => ?_
  refine wpAny_execs_cons (wpAny_mono (st10 w rfl dp un gd a ccd A₀ base h₀ L _ mg mb mean _ E _ B XB TB F X N T hd hu hE9 J) (fun fl s' p => ?_) fun _ _ z => z)
  obtain ⟨h', tk', m', n', rfl, rfl, F, N, hT⟩ := p
  exact ⟨h', tk', m', n', rfl, rfl, F, N, hT⟩
end Mine
theorem off_Lw6 : True := by
  (k_with "off_Lw6" => skip)
  trivial
end

section
open PySem PySem.W PySem.W.X PyProof.Rows
set_option maxRecDepth 100000
namespace Mine
set_option maxHeartbeats 8000000 in
theorem cw : PySem.Challenge.rw_pc0141_01.Holds := by
  w_on
  refine holds_law wellSaid fun said => ?_
  refine holds_openX (q := qv) (loose := looseV) (Xt := xt1) (XP := XL qv []) (Yf := fun s => (obsZ asK s, s.heap.get? 232)) (Ya := fun w => (valZ KK 618 1029 w, some (tabObj #[]))) (N := 8000) leftT (fun s e => xl_of s (Bool.and_eq_true_iff.mp e).1) XL.keeps (by rfl) (by rfl) (by rfl) (fun s e => recFacts_of (Bool.and_eq_true_iff.mp e).2) (by rfl) said (by decide +kernel) ⟨rfl, rfl, rfl, rfl, rfl, by decide +kernel⟩ ?hw ?hc
  case hw => w_witness2
  case hc =>
    k_fill
    intro w s₀ s₁ mg mb G y fa o pm cd doc dV kV ho hd hcd hD hmg hg args vals as L hpre hlay hrd hwl hlo
    have f := z_facts keysK (congrArg Prod.fst y)
    have KX : (KK w.params).In s₁.heap := InK.keeps w _ _ f.2.1 L.keeps
    have h232 : s₁.heap.get? 232 = some (tabObj #[]) := L.keeps _ _ (congrArg Prod.snd y)
    have hT9 : TabsAt [(236, 232)] s₁.heap := fun q hq => by
      obtain rfl := List.mem_singleton.mp hq
      exact ⟨code236 KX, h232⟩
    have ZN := f.2.2.1
    clear f y
    refine Ground.open G ?_
    intro T B D TE TW
    try (refine guard_noD D (by decide +kernel) ?_; clear D)
    wrow_args hpre hlay hrd hwl hlo
    refine enter_call ?_
    w_top on
    refine kn_post hT9 (fun _ _ => rfl) ?_
    w_call any ho hd hcd hD T F
    rename IntsAre _ _ => hI9
    rename Heap.IsList _ _ _ => hL9
    rename News _ _ _ _ => N9
    rename ¬ ((63 : Int) < _) => hz9
    have KG := ghost_K hT9 KX (by kernel_rfl)
    have TG := ghostT KX hT9 T
    have BG := ghost_below hT9
    have FG := ghost_fr hT9 F
    have NG := ghost_news hT9 F N9
    have LG := ghost_list hT9 hL9
    trace "H0"
    refine wpAny_mono (law_body w _ _ _ hI9 (by omega) rfl _ _ _ _ _ callerA _ _ _ _ mg mb _ _ _ _ BG KG TG FG KG NG TG (by decide) (by decide) ?hE LG rfl (.inl (.head _))) (fun fl s' p => ?_) (fun _ _ z => z)
    case hE => passes_own
    obtain ⟨h', tk', m', n', rfl, rfl, F2, N2, hT2⟩ := p
    trace "H1"
    dsimp only
    refine ⟨?_, ?_⟩
    · wrow_close
    · rcases hT2 with h | ⟨c, h⟩
      · exact ⟨⟨_, (N2 _ h).1⟩, trivial⟩
      · exact ⟨⟨_, (N2 _ h).1⟩, trivial⟩
end Mine
end
theorem PySem.Challenge.cw_pc0141_01_holds : PySem.Challenge.rw_pc0141_01.Holds := by
  exact Mine.cw
