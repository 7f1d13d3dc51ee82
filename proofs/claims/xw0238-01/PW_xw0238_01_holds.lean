import PyProof.Rows.All
import Wide.All
import OpenK.AllK
import Wide.FinOn
import Lean
import PySem.Challenge.RW_xw0238_01
open PySem PySem.W PySem.Calls PyProof.Rows
set_option Elab.async false
set_option maxRecDepth 100000
set_option rowWalk.seconds 0
set_option linter.all false
namespace Mine
/-- the kernel's own run of the top, over a tree of objects -/
noncomputable def topGoT (tb : String → Option Builtin) (p : Program) (w : World) (n₀ : Nat) (ann : Option Value) : Nat → SharedT → Thread → Option (SharedT × Thread)
  | 0, s, t => some (s, t)
  | n + 1, s, t => match through t with
    | true => none
    | false => match stepOk n₀ ann t with
      | false => none
      | true => match stepT (denote tb) p w s t with
        | some (s', t') => topGoT tb p w n₀ ann n s' t'
        | none => none
theorem topGo_of {tb : String → Option Builtin} {p : Program} {w : World} {n₀ : Nat} {ann : Option Value} : ∀ {n : Nat} {s s' : SharedT} {t t' : Thread}, topGoT tb p w n₀ ann n s t = some (s', t') → topGo tb p w n₀ ann n s.abs t = some (s'.abs, t')
  | 0, s, s', t, t', h => by
    obtain ⟨rfl, rfl⟩ : s = s' ∧ t = t' := by simpa [topGoT] using h
    rfl
  | n + 1, s, s', t, t', h => by
    unfold topGoT at h
    unfold topGo
    cases ht : through t with
    | true => rw [ht] at h; cases h
    | false =>
      rw [ht] at h
      cases hk : stepOk n₀ ann t with
      | false => rw [hk] at h; cases h
      | true =>
        rw [hk] at h
        cases hs : stepT (denote tb) p w s t with
        | none => rw [hs] at h; cases h
        | some r =>
          obtain ⟨s₂, t₂⟩ := r
          rw [hs] at h
          rw [stepT_spec hs]
          exact topGo_of h
/-- the statements one after another: what each ends with, the last state and place -/
noncomputable def stmtsT (seg : SharedT → Thread → Option (Flow × SharedT × Code × Pos)) (piece : Stmt → Pos → Thread) : List Stmt → SharedT → Pos → Option (List (Flow × Code) × SharedT × Pos)
  | [], s, pos => some ([], s, pos)
  | st :: r, s, pos => match seg s (piece st pos) with
    | some (f, s', c', p') => match stmtsT seg piece r s' p' with
      | some (l, s₂, p₂) => some ((f, c') :: l, s₂, p₂)
      | none => none
    | none => none
section
variable {tb : String → Option Builtin} {p : Program} {w : World} {n₀ : Nat} {ann : Option Value} {env : PySem.Env} {q : Pos} {c : Code} {fuel : Nat}
theorem stmts_top (sts : List Stmt) : ∀ {s s' : SharedT} {pos pos' : Pos} {N : Nat} {r : Shared},
    stmtsT (segRunT tb p w n₀ ann 1 fuel) (fun st pos => piecesOf [st] env c pos [topFrame q]) sts s pos = some (sts.map fun _ => (Flow.next, c), s', pos') →
    topRun tb p w n₀ ann N s'.abs ⟨doneF .next, c, pos', [topFrame q]⟩ = some r → topRun tb p w n₀ ann (fuel * sts.length + N) s.abs (restOf sts env c pos [topFrame q]) = some r := by
  induction sts with
  | nil =>
    intro s s' pos pos' N r h k
    obtain ⟨rfl, rfl⟩ : s = s' ∧ pos = pos' := by simpa [stmtsT] using h
    rw [List.length_nil, Nat.mul_zero, Nat.zero_add]
    exact piece_nil k
  | cons st rest ih =>
    intro s s' pos pos' N r h k
    unfold stmtsT at h
    cases hs : segRunT tb p w n₀ ann 1 fuel s (piecesOf [st] env c pos [topFrame q]) with
    | none => rw [hs] at h; cases h
    | some x =>
      obtain ⟨f, s₁, c', p'⟩ := x
      rw [hs] at h
      dsimp only at h
      cases hr : stmtsT (segRunT tb p w n₀ ann 1 fuel) (fun st pos => piecesOf [st] env c pos [topFrame q]) rest s₁ p' with
      | none => rw [hr] at h; cases h
      | some y =>
        obtain ⟨l, s₂, p₂⟩ := y
        rw [hr] at h
        simp only [List.map_cons, Option.some.injEq, Prod.mk.injEq, List.cons.injEq] at h
        obtain ⟨⟨⟨rfl, rfl⟩, rfl⟩, rfl, rfl⟩ := h
        have := piece_app (l := [st]) (segRun_of hs) (ih hr k)
        rw [List.length_cons, show fuel * (rest.length + 1) + N = fuel + (fuel * rest.length + N) by rw [Nat.mul_add]; omega]
        exact this
end
theorem seed : opensWell PySem.Challenge.pw_xw0238_01 = true := by kernel_rfl
noncomputable abbrev pw : Program := PySem.Challenge.pw_xw0238_01
noncomputable def grow : List Obj → BT → Nat → Option BT
  | [], t, _ => some t
  | o :: r, t, n => match ((t.ins n o).get n).isSome with
    | true => grow r (t.ins n o) (n + 1)
    | false => none
theorem grow_abs {life : Life} : ∀ {l : List Obj} {t t' : BT} {n : Nat}, grow l t n = some t' → absHeap t' (n + l.length) life = ⟨(absHeap t n life).objs ++ l.toArray, life⟩
  | [], t, t', n, h => by
    obtain rfl : t = t' := by simpa [grow] using h
    simp [absHeap]
  | o :: r, t, t', n, h => by
    unfold grow at h
    cases hs : ((t.ins n o).get n).isSome with
    | false => rw [hs] at h; cases h
    | true =>
      rw [hs] at h
      have e := grow_abs (life := life) h
      rw [List.length_cons, show n + (r.length + 1) = n + 1 + r.length by omega, e, absHeap_ins hs]
      simp [Heap.push]
noncomputable def bootT (P : Params) : BT := (grow [boot_o_0 P, boot_o_1 P, boot_o_2 P, boot_o_3 P, boot_o_4 P, boot_o_5 P, boot_o_6 P, boot_o_7 P, boot_o_8 P, boot_o_9 P, boot_o_10 P] .nil 0).getD .nil
noncomputable def S0 (w : World) (os : OsState) : SharedT := ⟨bootT w.params, 11, (boot_heap w.params).life, Array.mk [], boot_drawn, boot_toks, os⟩
theorem boot_abs (P : Params) : absHeap (bootT P) 11 (boot_heap P).life = boot_heap P := by
  have h : grow [boot_o_0 P, boot_o_1 P, boot_o_2 P, boot_o_3 P, boot_o_4 P, boot_o_5 P, boot_o_6 P, boot_o_7 P, boot_o_8 P, boot_o_9 P, boot_o_10 P] .nil 0 = some (bootT P) := by kernel_rfl
  have e := grow_abs (life := (boot_heap P).life) h
  refine Eq.trans e ?_
  kernel_rfl
theorem S0_abs (w : World) (os : OsState) : (S0 w os).abs = ⟨boot_heap w.params, Array.mk [], boot_drawn, boot_toks, os⟩ := by
  unfold S0 SharedT.abs
  dsimp only
  rw [boot_abs]
noncomputable abbrev bodyE : List Stmt := behindTheImports pw
noncomputable def envE : PySem.Env := { scope := pw.main.scope, locals := mainNs, globals := mainNs, cells := [], code := .ref 13, frame := some 14 }
noncomputable abbrev cE : Code := .body bodyE envE
noncomputable abbrev p00 : Pos := { line := 0, col := 0, endLine := 0, endCol := 0 }
noncomputable def Sa (w : World) (os : OsState) : SharedT := match topGoT treeTable pw w 11 (some (.ref 6)) 12 (S0 w os) (topStub pw) with
  | some (s, _) => s
  | none => S0 w os
theorem pre_run : ∀ (w : World) (os : OsState), topGoT treeTable pw w 11 (some (.ref 6)) 12 (S0 w os) (topStub pw) = some (Sa w os, ⟨denote treeTable cE, cE, p00, [topFrame p00]⟩) := fun w os => by kernel_rfl
theorem block_run : ∀ (w : World) (os : OsState), segRunT treeTable pw w 11 (some (.ref 6)) 1 3 (Sa w os) (blockOf bodyE envE cE p00 [topFrame p00]) = some (.next, Sa w os, cE, p00) := fun w os => by kernel_rfl
noncomputable def runThen {β : Type} (x : Option (List (Flow × Code) × SharedT × Pos)) (top : SharedT → Pos → Option Shared) (g : Shared → β) : Option (List (Flow × Code) × β) := match x with
  | some (l, S, p') => (match top S p' with
    | some r => some (l, g r)
    | none => none)
  | none => none
theorem left_of {p q : Program} {loose : List Str} {Xt : Shared → Bool} {α : Type} {Yf : Shared → α} {Ya : World → α} {N : Nat} {H : Params → Heap} {gs : Array GenState} {d : Drawn} {k : Nat} {m₀ n₁ n₂ n₃ fuel : Nat} {ann : Option Value} {S0 Sa : World → OsState → SharedT} {b : List Stmt} {env : PySem.Env} {c : Code} {q0 pos pos' : Pos}
    (open_ : ∀ w : World, (fencedOpening treeTable p w N).map (fun s => (s.heap, s.gens, s.drawn, s.toks)) = some (H w.params, gs, d, k))
    (sabs : ∀ (w : World) (os : OsState), (S0 w os).abs = ⟨H w.params, gs, d, k, os⟩)
    (size : ∀ w : World, ((H w.params).isNs mainGlobals && gs.size == 0, (H w.params).objs.size, (H w.params).nsMap mainGlobals "__annotations__") = (true, m₀, ann))
    (hc : c = .body b env)
    (pre : ∀ (w : World) (os : OsState), topGoT treeTable p w m₀ ann n₁ (S0 w os) (topStub p) = some (Sa w os, ⟨denote treeTable c, c, pos, [topFrame q0]⟩))
    (block : ∀ (w : World) (os : OsState), segRunT treeTable p w m₀ ann 1 n₂ (Sa w os) (blockOf b env c pos [topFrame q0]) = some (.next, Sa w os, c, pos'))
    (main : ∀ (w : World) (os : OsState), runThen (stmtsT (segRunT treeTable p w m₀ ann 1 fuel) (fun st pos => ⟨(execs [st] env).wrap doneF deadEnd id id, c, pos, [topFrame q0]⟩) b (Sa w os) pos') (fun S p' => topRun treeTable p w m₀ ann n₃ S.abs ⟨doneF .next, c, p', [topFrame q0]⟩)
      (fun r => (staticsOk (importedModules p.main.body) (H w.params) r.heap && namesBound p r.heap && gensDone r && laidKept (H w.params) r.heap, Yf r, openSeen q loose (importedModules p.main.body) Xt true r)) = some (b.map fun _ => (Flow.next, c), true, Ya w, openGood q loose))
    (le : Nat.ble (n₁ + (n₂ + (fuel * b.length + n₃))) N = true) : LeftO p q loose Xt Yf Ya N := fun w => by
  obtain ⟨⟨h, gs', d', k', os⟩, e, e'⟩ := Option.map_eq_some_iff.mp (open_ w)
  obtain ⟨rfl, rfl, rfl, rfl⟩ : h = H w.params ∧ gs' = gs ∧ d' = d ∧ k' = k := by simpa using e'
  have m := main w os
  unfold runThen at m
  cases h1 : stmtsT (segRunT treeTable p w m₀ ann 1 fuel) (fun st pos => ⟨(execs [st] env).wrap doneF deadEnd id id, c, pos, [topFrame q0]⟩) b (Sa w os) pos' with
  | none => rw [h1] at m; cases m
  | some x =>
    obtain ⟨l, S, p'⟩ := x
    rw [h1] at m
    dsimp only at m
    cases h2 : topRun treeTable p w m₀ ann n₃ S.abs ⟨doneF .next, c, p', [topFrame q0]⟩ with
    | none => rw [h2] at m; cases m
    | some r =>
      rw [h2] at m
      simp only [Option.some.injEq, Prod.mk.injEq] at m
      obtain ⟨rfl, m1, m2, m3⟩ := m
      have t1 := stmts_top b h1 h2
      have t2 := piece_block (segRun_of (block w os)) t1
      rw [← hc] at t2
      have t3 := go_top (topGo_of (pre w os)) t2
      rw [sabs] at t3
      have t4 := topRun_mono (N - (n₁ + (n₂ + (fuel * b.length + n₃)))) _ _ _ _ t3
      rw [show n₁ + (n₂ + (fuel * b.length + n₃)) + (N - (n₁ + (n₂ + (fuel * b.length + n₃)))) = N by have := Nat.le_of_ble_eq_true le; omega] at t4
      obtain ⟨z1, z2, z3⟩ : _ ∧ _ ∧ _ := by simpa only [Prod.mk.injEq] using size w
      have t : topFrom treeTable p w N ⟨H w.params, gs', d', k', os⟩ = some r := by
        unfold topFrom
        dsimp only
        rw [z1, z2, z3]
        dsimp only
        rw [t4]
        show (match staticsOk (importedModules p.main.body) (H w.params) r.heap && namesBound p r.heap && gensDone r && laidKept (H w.params) r.heap with | true => _ | false => _) = _
        rw [m1]
      unfold openEnds
      rw [e]
      show (topFrom treeTable p w N _).map _ = _
      rw [t]
      exact congrArg some (Prod.ext m3 m2)
noncomputable abbrev ke (P : Params) (k : String) (t : Tok) (v : Value) : DictEntry := ⟨PyData.keyHash P (Str.ofString k), .str (Str.ofString k) t, v⟩
noncomputable abbrev sv (s : String) (t : Tok) : Value := .str (Str.ofString s) t
noncomputable abbrev codeAt (vs : Array Value) : Obj := { cls := .type "code", data := .fields vs }
noncomputable def stTop (p : Program) (i : Nat) : Option Stmt := p.main.body[i]?
noncomputable def stIn (p : Program) (i j : Nat) : Option Stmt := match p.main.body[i]? with
  | some (.ClassDef _ _ _ b _ _ _ _ _ _ _) => b[j]?
  | _ => none
noncomputable def fnAt (st : Option Stmt) (qual : String) (dV : Value) (pm : String) (pt : Tok) (cd : Addr) : Obj := match st with
  | some (.FunctionDef name params body _ _ _ scope _ _ _) => { cls := .type "function", data := .func { name, qualname := Str.ofString qual, params, body := .stmts body, scope, globals := 3, closure := [], defaults := dV, kwdefaults := .none, pyModule := sv pm pt, code := .ref cd } }
  | _ => default
noncomputable def o2 (p : Program) (P : Params) : Obj := { cls := .none, data := Data.dict #[ke P "type.__subclasses__.Exception.0" 239 (.int 52 0), ke P "type.__subclasses__.Exception.n" 240 (.int 1 0)] 2 }
noncomputable def o3 (p : Program) (P : Params) : Obj := { cls := .type "dict", data := Data.dict #[ke P "__name__" 165 ((sv "law_xw0238_01" 870)), ke P "__doc__" 166 (.none), ke P "__package__" 167 (.none), ke P "__loader__" 168 (.builtin "__main__.__loader__#opaque"), ke P "__spec__" 169 (.none), ke P "__annotations__" 170 (.ref 6), ke P "__builtins__" 171 (.ref 4), ke P "__file__" 173 ((sv "/claim/cut.py" 172)), ke P "__cached__" 174 (.none), ke P "_wall" 193 (.ref 21), ke P "seek_word" 203 (.ref 28), ke P "past_word" 211 (.ref 35), ke P "PagebaseError" 242 (.ref 52), ke P "CorruptError" 258 (.ref 65), ke P "MisuseError" 274 (.ref 77), ke P "REPLACEMENT" 279 ((sv "�" 278)), ke P "lead_of" 286 (.ref 86), ke P "text_of" 297 (.ref 93), ke P "code_at" 310 (.ref 100), ke P "NUMBER_SIZES" 320 (.ref 101), ke P "ZERO_TYPE" 322 (.int 8 321), ke P "ONE_TYPE" 324 (.int 9 323), ke P "BLOB_TYPE" 326 (.int 12 325), ke P "get_varint" 337 (.ref 108), ke P "get_fixed" 348 (.ref 115), ke P "serial_size" 355 (.ref 122), ke P "value_of" 366 (.ref 129), ke P "head_of" 377 (.ref 136), ke P "decode_record" 388 (.ref 143), ke P "record_column" 401 (.ref 150), ke P "EphemeralRows" 581 (.ref 300), ke P "Node" 610 (.ref 321), ke P "Expr" 626 (.ref 335), ke P "Literal" 658 (.ref 361), ke P "fold" 666 (.ref 368), ke P "ROWS_OF_TABLE" 670 (.int 1000 669), ke P "ROW_BY_TABLE" 672 (.int 2 671), ke P "Path" 738 (.ref 407), ke P "put_equal" 746 (.ref 418), ke P "new_index_path" 757 (.ref 425), ke P "is_wanted" 765 (.ref 432), ke P "is_let" 773 (.ref 439), ke P "Index" 830 (.ref 470), ke P "Bound" 869 (.ref 491), ke P "_law_pool" 882 (.ref 502), ke P "_law_take" 891 (.ref 509), ke P "_law_one" 899 (.ref 516), ke P "_law_stand" 908 (.ref 523), ke P "_law_is_past" 917 (.ref 530), ke P "_law_walk" 933 (.ref 537), ke P "_law_walk_right" 939 (.ref 542), ke P "_law_path" 951 (.ref 549), ke P "_law_hints_right" 964 (.ref 556), ke P "law" 970 (.ref 561)] 54 }
noncomputable def o27 (p : Program) (P : Params) : Obj := codeAt #[(sv "seek_word" 196), (sv "seek_word" 197), (sv "/claim/cut.py" 198), .int 5 0, .int 2 0, .int 0 0, .int 0 0, .int 3 0, .ref 22, .bool true, .int 181 0, .ref 23, .none, .ref 24, .ref 25, .ref 26, .int 201 0, .int 5 0, (sv "/claim/cut.py" 202)]
noncomputable def o28 (p : Program) (P : Params) : Obj := fnAt (stTop p 2) "seek_word" (.none) "pagebase.code_where" 194 27
noncomputable def o34 (p : Program) (P : Params) : Obj := codeAt #[(sv "past_word" 204), (sv "past_word" 205), (sv "/claim/cut.py" 206), .int 9 0, .int 2 0, .int 0 0, .int 0 0, .int 3 0, .ref 29, .bool true, .int 181 0, .ref 30, .none, .ref 31, .ref 32, .ref 33, .int 209 0, .int 9 0, (sv "/claim/cut.py" 210)]
noncomputable def o35 (p : Program) (P : Params) : Obj := fnAt (stTop p 3) "past_word" (.none) "pagebase.code_where" 194 34
noncomputable def o163 (p : Program) (P : Params) : Obj := codeAt #[(sv "__init__" 416), (sv "EphemeralRows.__init__" 417), (sv "/claim/cut.py" 418), .int 145 0, .int 1 0, .int 0 0, .int 0 0, .int 3 0, .ref 158, .bool true, .int 181 0, .ref 159, .none, .ref 160, .ref 161, .ref 162, .int 420 0, .int 145 0, (sv "/claim/cut.py" 421)]
noncomputable def o164 (p : Program) (P : Params) : Obj := fnAt (stIn p 26 0) "EphemeralRows.__init__" (.none) "pagebase.ephemeral_rows" 402 163
noncomputable def o170 (p : Program) (P : Params) : Obj := codeAt #[(sv "insert_row" 423), (sv "EphemeralRows.insert_row" 424), (sv "/claim/cut.py" 425), .int 150 0, .int 3 0, .int 0 0, .int 0 0, .int 3 0, .ref 165, .bool true, .int 181 0, .ref 166, .none, .ref 167, .ref 168, .ref 169, .int 430 0, .int 150 0, (sv "/claim/cut.py" 431)]
noncomputable def o171 (p : Program) (P : Params) : Obj := fnAt (stIn p 26 1) "EphemeralRows.insert_row" (.none) "pagebase.ephemeral_rows" 402 170
noncomputable def o177 (p : Program) (P : Params) : Obj := codeAt #[(sv "place_of" 433), (sv "EphemeralRows.place_of" 434), (sv "/claim/cut.py" 435), .int 159 0, .int 2 0, .int 0 0, .int 0 0, .int 3 0, .ref 172, .bool true, .int 181 0, .ref 173, .none, .ref 174, .ref 175, .ref 176, .int 441 0, .int 159 0, (sv "/claim/cut.py" 442)]
noncomputable def o178 (p : Program) (P : Params) : Obj := fnAt (stIn p 26 2) "EphemeralRows.place_of" (.none) "pagebase.ephemeral_rows" 402 177
noncomputable def o191 (p : Program) (P : Params) : Obj := codeAt #[(sv "stand" 451), (sv "EphemeralRows.stand" 452), (sv "/claim/cut.py" 453), .int 173 0, .int 2 0, .int 0 0, .int 0 0, .int 3 0, .ref 186, .bool true, .int 181 0, .ref 187, .none, .ref 188, .ref 189, .ref 190, .int 456 0, .int 173 0, (sv "/claim/cut.py" 457)]
noncomputable def o192 (p : Program) (P : Params) : Obj := fnAt (stIn p 26 4) "EphemeralRows.stand" (.none) "pagebase.ephemeral_rows" 402 191
noncomputable def o212 (p : Program) (P : Params) : Obj := codeAt #[(sv "next" 473), (sv "EphemeralRows.next" 474), (sv "/claim/cut.py" 475), .int 184 0, .int 1 0, .int 0 0, .int 0 0, .int 3 0, .ref 207, .bool true, .int 181 0, .ref 208, .none, .ref 209, .ref 210, .ref 211, .int 477 0, .int 184 0, (sv "/claim/cut.py" 478)]
noncomputable def o213 (p : Program) (P : Params) : Obj := fnAt (stIn p 26 7) "EphemeralRows.next" (.none) "pagebase.ephemeral_rows" 402 212
noncomputable def o219 (p : Program) (P : Params) : Obj := codeAt #[(sv "previous" 480), (sv "EphemeralRows.previous" 481), (sv "/claim/cut.py" 482), .int 189 0, .int 1 0, .int 0 0, .int 0 0, .int 3 0, .ref 214, .bool true, .int 181 0, .ref 215, .none, .ref 216, .ref 217, .ref 218, .int 484 0, .int 189 0, (sv "/claim/cut.py" 485)]
noncomputable def o220 (p : Program) (P : Params) : Obj := fnAt (stIn p 26 8) "EphemeralRows.previous" (.none) "pagebase.ephemeral_rows" 402 219
noncomputable def o233 (p : Program) (P : Params) : Obj := codeAt #[(sv "seek_ge" 496), (sv "EphemeralRows.seek_ge" 497), (sv "/claim/cut.py" 498), .int 204 0, .int 2 0, .int 0 0, .int 0 0, .int 3 0, .ref 228, .bool true, .int 181 0, .ref 229, .none, .ref 230, .ref 231, .ref 232, .int 501 0, .int 204 0, (sv "/claim/cut.py" 502)]
noncomputable def o234 (p : Program) (P : Params) : Obj := fnAt (stIn p 26 10) "EphemeralRows.seek_ge" (.none) "pagebase.ephemeral_rows" 402 233
noncomputable def o240 (p : Program) (P : Params) : Obj := codeAt #[(sv "seek_gt" 504), (sv "EphemeralRows.seek_gt" 505), (sv "/claim/cut.py" 506), .int 207 0, .int 2 0, .int 0 0, .int 0 0, .int 3 0, .ref 235, .bool true, .int 181 0, .ref 236, .none, .ref 237, .ref 238, .ref 239, .int 509 0, .int 207 0, (sv "/claim/cut.py" 510)]
noncomputable def o241 (p : Program) (P : Params) : Obj := fnAt (stIn p 26 11) "EphemeralRows.seek_gt" (.none) "pagebase.ephemeral_rows" 402 240
noncomputable def o247 (p : Program) (P : Params) : Obj := codeAt #[(sv "seek_le" 512), (sv "EphemeralRows.seek_le" 513), (sv "/claim/cut.py" 514), .int 210 0, .int 2 0, .int 0 0, .int 0 0, .int 3 0, .ref 242, .bool true, .int 181 0, .ref 243, .none, .ref 244, .ref 245, .ref 246, .int 517 0, .int 210 0, (sv "/claim/cut.py" 518)]
noncomputable def o248 (p : Program) (P : Params) : Obj := fnAt (stIn p 26 12) "EphemeralRows.seek_le" (.none) "pagebase.ephemeral_rows" 402 247
noncomputable def o254 (p : Program) (P : Params) : Obj := codeAt #[(sv "seek_lt" 520), (sv "EphemeralRows.seek_lt" 521), (sv "/claim/cut.py" 522), .int 213 0, .int 2 0, .int 0 0, .int 0 0, .int 3 0, .ref 249, .bool true, .int 181 0, .ref 250, .none, .ref 251, .ref 252, .ref 253, .int 525 0, .int 213 0, (sv "/claim/cut.py" 526)]
noncomputable def o255 (p : Program) (P : Params) : Obj := fnAt (stIn p 26 13) "EphemeralRows.seek_lt" (.none) "pagebase.ephemeral_rows" 402 254
noncomputable def o261 (p : Program) (P : Params) : Obj := codeAt #[(sv "valid" 528), (sv "EphemeralRows.valid" 529), (sv "/claim/cut.py" 530), .int 216 0, .int 1 0, .int 0 0, .int 0 0, .int 3 0, .ref 256, .bool true, .int 181 0, .ref 257, .none, .ref 258, .ref 259, .ref 260, .int 532 0, .int 216 0, (sv "/claim/cut.py" 533)]
noncomputable def o262 (p : Program) (P : Params) : Obj := fnAt (stIn p 26 14) "EphemeralRows.valid" (.none) "pagebase.ephemeral_rows" 402 261
noncomputable def o268 (p : Program) (P : Params) : Obj := codeAt #[(sv "ask" 535), (sv "EphemeralRows.ask" 536), (sv "/claim/cut.py" 537), .int 219 0, .int 1 0, .int 0 0, .int 0 0, .int 3 0, .ref 263, .bool true, .int 181 0, .ref 264, .none, .ref 265, .ref 266, .ref 267, .int 539 0, .int 219 0, (sv "/claim/cut.py" 540)]
noncomputable def o269 (p : Program) (P : Params) : Obj := fnAt (stIn p 26 15) "EphemeralRows.ask" (.none) "pagebase.ephemeral_rows" 402 268
noncomputable def o275 (p : Program) (P : Params) : Obj := codeAt #[(sv "rowid" 542), (sv "EphemeralRows.rowid" 543), (sv "/claim/cut.py" 544), .int 223 0, .int 1 0, .int 0 0, .int 0 0, .int 3 0, .ref 270, .bool true, .int 181 0, .ref 271, .none, .ref 272, .ref 273, .ref 274, .int 546 0, .int 223 0, (sv "/claim/cut.py" 547)]
noncomputable def o276 (p : Program) (P : Params) : Obj := fnAt (stIn p 26 16) "EphemeralRows.rowid" (.none) "pagebase.ephemeral_rows" 402 275
noncomputable def o299 (p : Program) (P : Params) : Obj := { cls := .type "dict", data := Data.dict #[ke P "__module__" 411 ((sv "pagebase.ephemeral_rows" 402)), ke P "__firstlineno__" 415 (.int 143 414), ke P "__init__" 422 (.ref 164), ke P "insert_row" 432 (.ref 171), ke P "place_of" 443 (.ref 178), ke P "delete" 450 (.ref 185), ke P "stand" 458 (.ref 192), ke P "first" 465 (.ref 199), ke P "last" 472 (.ref 206), ke P "next" 479 (.ref 213), ke P "previous" 486 (.ref 220), ke P "seek" 495 (.ref 227), ke P "seek_ge" 503 (.ref 234), ke P "seek_gt" 511 (.ref 241), ke P "seek_le" 519 (.ref 248), ke P "seek_lt" 527 (.ref 255), ke P "valid" 534 (.ref 262), ke P "ask" 541 (.ref 269), ke P "rowid" 548 (.ref 276), ke P "record" 555 (.ref 283), ke P "values" 562 (.ref 290), ke P "value" 570 (.ref 297), ke P "__static_attributes__" 574 (.ref 298), ke P "__dict__" 576 (.ref 301), ke P "__weakref__" 578 (.ref 302), ke P "__doc__" 579 (.none)] 4 }
noncomputable def o300 (p : Program) (P : Params) : Obj := { cls := .type "type", data := Data.cls { name := Str.ofString "EphemeralRows", bases := [.type "object"], mro := [.ref 300, .type "object"], ns := 299, qualname := Str.ofString "EphemeralRows" }, slots := #[none, none, some ((sv "EphemeralRows" 404)), some ((sv "EphemeralRows" 412)), some (.builtin "object.__new__"), some (.bool true)] }
noncomputable def o320 (p : Program) (P : Params) : Obj := { cls := .type "dict", data := Data.dict #[ke P "__module__" 591 ((sv "pagebase.nodes" 582)), ke P "__firstlineno__" 595 (.int 237 594), ke P "row" 602 (.ref 318), ke P "__static_attributes__" 603 (.ref 319), ke P "__dict__" 605 (.ref 322), ke P "__weakref__" 607 (.ref 323), ke P "__doc__" 608 (.none)] 4 }
noncomputable def o321 (p : Program) (P : Params) : Obj := { cls := .type "type", data := Data.cls { name := Str.ofString "Node", bases := [.type "object"], mro := [.ref 321, .type "object"], ns := 320, qualname := Str.ofString "Node", subclasses := [.ref 335] }, slots := #[none, none, some ((sv "Node" 584)), some ((sv "Node" 592)), some (.builtin "object.__new__"), some (.bool true)] }
noncomputable def o334 (p : Program) (P : Params) : Obj := { cls := .type "dict", data := Data.dict #[ke P "__module__" 618 ((sv "pagebase.nodes" 582)), ke P "__firstlineno__" 622 (.int 241 621), ke P "__static_attributes__" 623 (.ref 333), ke P "__doc__" 624 (.none)] 2 }
noncomputable def o335 (p : Program) (P : Params) : Obj := { cls := .type "type", data := Data.cls { name := Str.ofString "Expr", bases := [.ref 321], mro := [.ref 335, .ref 321, .type "object"], ns := 334, qualname := Str.ofString "Expr", subclasses := [.ref 361] }, slots := #[some (.ref 326), none, some ((sv "Expr" 611)), some ((sv "Expr" 619)), some (.builtin "object.__new__"), some (.bool true)] }
noncomputable def o350 (p : Program) (P : Params) : Obj := codeAt #[(sv "__init__" 639), (sv "Literal.__init__" 640), (sv "/claim/cut.py" 641), .int 245 0, .int 2 0, .int 0 0, .int 0 0, .int 3 0, .ref 345, .bool true, .int 181 0, .ref 346, .none, .ref 347, .ref 348, .ref 349, .int 644 0, .int 245 0, (sv "/claim/cut.py" 645)]
noncomputable def o351 (p : Program) (P : Params) : Obj := fnAt (stIn p 30 0) "Literal.__init__" (.none) "pagebase.nodes" 582 350
noncomputable def o360 (p : Program) (P : Params) : Obj := { cls := .type "dict", data := Data.dict #[ke P "__module__" 634 ((sv "pagebase.nodes" 582)), ke P "__firstlineno__" 638 (.int 243 637), ke P "__init__" 646 (.ref 351), ke P "row" 653 (.ref 358), ke P "__static_attributes__" 655 (.ref 359), ke P "__doc__" 656 (.none)] 2 }
noncomputable def o361 (p : Program) (P : Params) : Obj := { cls := .type "type", data := Data.cls { name := Str.ofString "Literal", bases := [.ref 335], mro := [.ref 361, .ref 335, .ref 321, .type "object"], ns := 360, qualname := Str.ofString "Literal" }, slots := #[some (.ref 338), none, some ((sv "Literal" 627)), some ((sv "Literal" 635)), some (.builtin "object.__new__"), some (.bool true)] }
noncomputable def o367 (p : Program) (P : Params) : Obj := codeAt #[(sv "fold" 661), (sv "fold" 662), (sv "/claim/cut.py" 663), .int 255 0, .int 1 0, .int 0 0, .int 0 0, .int 3 0, .ref 364, .bool true, .int 181 0, .ref 365, .none, .none, .none, .ref 366, .int 664 0, .int 255 0, (sv "/claim/cut.py" 665)]
noncomputable def o368 (p : Program) (P : Params) : Obj := fnAt (stTop p 32) "fold" (.none) "pagebase.expr_tools" 659 367
noncomputable def o376 (p : Program) (P : Params) : Obj := { cls := .type "tuple", data := Data.seq #[.none] }
noncomputable def o382 (p : Program) (P : Params) : Obj := codeAt #[(sv "__init__" 685), (sv "Path.__init__" 686), (sv "/claim/cut.py" 687), .int 262 0, .int 3 0, .int 0 0, .int 0 0, .int 3 0, .ref 377, .bool true, .int 181 0, .ref 378, .none, .ref 379, .ref 380, .ref 381, .int 691 0, .int 262 0, (sv "/claim/cut.py" 692)]
noncomputable def o383 (p : Program) (P : Params) : Obj := fnAt (stIn p 36 0) "Path.__init__" (.ref 376) "pagebase.paths" 667 382
noncomputable def o389 (p : Program) (P : Params) : Obj := codeAt #[(sv "is_led" 694), (sv "Path.is_led" 695), (sv "/claim/cut.py" 696), .int 279 0, .int 1 0, .int 0 0, .int 0 0, .int 3 0, .ref 384, .bool true, .int 181 0, .ref 385, .none, .ref 386, .ref 387, .ref 388, .int 698 0, .int 279 0, (sv "/claim/cut.py" 699)]
noncomputable def o390 (p : Program) (P : Params) : Obj := fnAt (stIn p 36 1) "Path.is_led" (.none) "pagebase.paths" 667 389
noncomputable def o406 (p : Program) (P : Params) : Obj := { cls := .type "dict", data := Data.dict #[ke P "__module__" 680 ((sv "pagebase.paths" 667)), ke P "__firstlineno__" 684 (.int 260 683), ke P "__init__" 693 (.ref 383), ke P "is_led" 700 (.ref 390), ke P "turned" 708 (.ref 397), ke P "told" 715 (.ref 404), ke P "__static_attributes__" 731 (.ref 405), ke P "__dict__" 733 (.ref 408), ke P "__weakref__" 735 (.ref 409), ke P "__doc__" 736 (.none)] 4 }
noncomputable def o407 (p : Program) (P : Params) : Obj := { cls := .type "type", data := Data.cls { name := Str.ofString "Path", bases := [.type "object"], mro := [.ref 407, .type "object"], ns := 406, qualname := Str.ofString "Path" }, slots := #[none, none, some ((sv "Path" 673)), some ((sv "Path" 681)), some (.builtin "object.__new__"), some (.bool true)] }
noncomputable def o417 (p : Program) (P : Params) : Obj := codeAt #[(sv "put_equal" 739), (sv "put_equal" 740), (sv "/claim/cut.py" 741), .int 287 0, .int 2 0, .int 0 0, .int 0 0, .int 3 0, .ref 412, .bool true, .int 181 0, .ref 413, .none, .ref 414, .ref 415, .ref 416, .int 744 0, .int 287 0, (sv "/claim/cut.py" 745)]
noncomputable def o418 (p : Program) (P : Params) : Obj := fnAt (stTop p 37) "put_equal" (.none) "pagebase.paths" 667 417
noncomputable def o424 (p : Program) (P : Params) : Obj := codeAt #[(sv "new_index_path" 747), (sv "new_index_path" 748), (sv "/claim/cut.py" 749), .int 290 0, .int 3 0, .int 0 0, .int 0 0, .int 3 0, .ref 419, .bool true, .int 181 0, .ref 420, .none, .ref 421, .ref 422, .ref 423, .int 755 0, .int 290 0, (sv "/claim/cut.py" 756)]
noncomputable def o425 (p : Program) (P : Params) : Obj := fnAt (stTop p 38) "new_index_path" (.none) "pagebase.paths" 667 424
noncomputable def o431 (p : Program) (P : Params) : Obj := codeAt #[(sv "is_wanted" 758), (sv "is_wanted" 759), (sv "/claim/cut.py" 760), .int 296 0, .int 2 0, .int 0 0, .int 0 0, .int 3 0, .ref 426, .bool true, .int 181 0, .ref 427, .none, .ref 428, .ref 429, .ref 430, .int 763 0, .int 296 0, (sv "/claim/cut.py" 764)]
noncomputable def o432 (p : Program) (P : Params) : Obj := fnAt (stTop p 39) "is_wanted" (.none) "pagebase.paths" 667 431
noncomputable def o438 (p : Program) (P : Params) : Obj := codeAt #[(sv "is_let" 766), (sv "is_let" 767), (sv "/claim/cut.py" 768), .int 302 0, .int 2 0, .int 0 0, .int 0 0, .int 3 0, .ref 433, .bool true, .int 181 0, .ref 434, .none, .ref 435, .ref 436, .ref 437, .int 771 0, .int 302 0, (sv "/claim/cut.py" 772)]
noncomputable def o439 (p : Program) (P : Params) : Obj := fnAt (stTop p 40) "is_let" (.none) "pagebase.paths" 667 438
noncomputable def o452 (p : Program) (P : Params) : Obj := codeAt #[(sv "__init__" 788), (sv "Index.__init__" 789), (sv "/claim/cut.py" 790), .int 311 0, .int 8 0, .int 0 0, .int 0 0, .int 3 0, .ref 447, .bool true, .int 181 0, .ref 448, .none, .ref 449, .ref 450, .ref 451, .int 799 0, .int 311 0, (sv "/claim/cut.py" 800)]
noncomputable def o453 (p : Program) (P : Params) : Obj := fnAt (stIn p 42 0) "Index.__init__" (.none) "pagebase.tables" 774 452
noncomputable def o469 (p : Program) (P : Params) : Obj := { cls := .type "dict", data := Data.dict #[ke P "__module__" 783 ((sv "pagebase.tables" 774)), ke P "__firstlineno__" 787 (.int 309 786), ke P "__init__" 801 (.ref 453), ke P "info" 808 (.ref 460), ke P "places" 815 (.ref 467), ke P "__static_attributes__" 823 (.ref 468), ke P "__dict__" 825 (.ref 471), ke P "__weakref__" 827 (.ref 472), ke P "__doc__" 828 (.none)] 4 }
noncomputable def o470 (p : Program) (P : Params) : Obj := { cls := .type "type", data := Data.cls { name := Str.ofString "Index", bases := [.type "object"], mro := [.ref 470, .type "object"], ns := 469, qualname := Str.ofString "Index" }, slots := #[none, none, some ((sv "Index" 776)), some ((sv "Index" 784)), some (.builtin "object.__new__"), some (.bool true)] }
noncomputable def o487 (p : Program) (P : Params) : Obj := codeAt #[(sv "__init__" 845), (sv "Bound.__init__" 846), (sv "/claim/cut.py" 847), .int 328 0, .int 6 0, .int 0 0, .int 0 0, .int 3 0, .ref 482, .bool true, .int 181 0, .ref 483, .none, .ref 484, .ref 485, .ref 486, .int 854 0, .int 328 0, (sv "/claim/cut.py" 855)]
noncomputable def o488 (p : Program) (P : Params) : Obj := fnAt (stIn p 44 0) "Bound.__init__" (.none) "pagebase.terms" 831 487
noncomputable def o490 (p : Program) (P : Params) : Obj := { cls := .type "dict", data := Data.dict #[ke P "__module__" 840 ((sv "pagebase.terms" 831)), ke P "__firstlineno__" 844 (.int 326 843), ke P "__init__" 856 (.ref 488), ke P "__static_attributes__" 862 (.ref 489), ke P "__dict__" 864 (.ref 492), ke P "__weakref__" 866 (.ref 493), ke P "__doc__" 867 (.none)] 4 }
noncomputable def o491 (p : Program) (P : Params) : Obj := { cls := .type "type", data := Data.cls { name := Str.ofString "Bound", bases := [.type "object"], mro := [.ref 491, .type "object"], ns := 490, qualname := Str.ofString "Bound" }, slots := #[none, none, some ((sv "Bound" 833)), some ((sv "Bound" 841)), some (.builtin "object.__new__"), some (.bool true)] }
noncomputable def o501 (p : Program) (P : Params) : Obj := codeAt #[(sv "_law_pool" 872), (sv "_law_pool" 873), (sv "/claim/cut.py" 874), .int 335 0, .int 2 0, .int 0 0, .int 0 0, .int 3 0, .ref 496, .bool true, .int 181 0, .ref 497, .none, .ref 498, .ref 499, .ref 500, .int 880 0, .int 335 0, (sv "/claim/cut.py" 881)]
noncomputable def o502 (p : Program) (P : Params) : Obj := fnAt (stTop p 46) "_law_pool" (.none) "law_xw0238_01" 870 501
noncomputable def o508 (p : Program) (P : Params) : Obj := codeAt #[(sv "_law_take" 883), (sv "_law_take" 884), (sv "/claim/cut.py" 885), .int 342 0, .int 2 0, .int 0 0, .int 0 0, .int 3 0, .ref 503, .bool true, .int 181 0, .ref 504, .none, .ref 505, .ref 506, .ref 507, .int 889 0, .int 342 0, (sv "/claim/cut.py" 890)]
noncomputable def o509 (p : Program) (P : Params) : Obj := fnAt (stTop p 47) "_law_take" (.none) "law_xw0238_01" 870 508
noncomputable def o515 (p : Program) (P : Params) : Obj := codeAt #[(sv "_law_one" 892), (sv "_law_one" 893), (sv "/claim/cut.py" 894), .int 349 0, .int 2 0, .int 0 0, .int 0 0, .int 3 0, .ref 510, .bool true, .int 181 0, .ref 511, .none, .ref 512, .ref 513, .ref 514, .int 897 0, .int 349 0, (sv "/claim/cut.py" 898)]
noncomputable def o516 (p : Program) (P : Params) : Obj := fnAt (stTop p 48) "_law_one" (.none) "law_xw0238_01" 870 515
noncomputable def o522 (p : Program) (P : Params) : Obj := codeAt #[(sv "_law_stand" 900), (sv "_law_stand" 901), (sv "/claim/cut.py" 902), .int 351 0, .int 3 0, .int 0 0, .int 0 0, .int 3 0, .ref 517, .bool true, .int 181 0, .ref 518, .none, .ref 519, .ref 520, .ref 521, .int 906 0, .int 351 0, (sv "/claim/cut.py" 907)]
noncomputable def o523 (p : Program) (P : Params) : Obj := fnAt (stTop p 49) "_law_stand" (.none) "law_xw0238_01" 870 522
noncomputable def o529 (p : Program) (P : Params) : Obj := codeAt #[(sv "_law_is_past" 909), (sv "_law_is_past" 910), (sv "/claim/cut.py" 911), .int 357 0, .int 3 0, .int 0 0, .int 0 0, .int 3 0, .ref 524, .bool true, .int 181 0, .ref 525, .none, .ref 526, .ref 527, .ref 528, .int 915 0, .int 357 0, (sv "/claim/cut.py" 916)]
noncomputable def o530 (p : Program) (P : Params) : Obj := fnAt (stTop p 50) "_law_is_past" (.none) "law_xw0238_01" 870 529
noncomputable def o536 (p : Program) (P : Params) : Obj := codeAt #[(sv "_law_walk" 918), (sv "_law_walk" 919), (sv "/claim/cut.py" 920), .int 361 0, .int 4 0, .int 0 0, .int 0 0, .int 3 0, .ref 531, .bool true, .int 181 0, .ref 532, .none, .ref 533, .ref 534, .ref 535, .int 931 0, .int 361 0, (sv "/claim/cut.py" 932)]
noncomputable def o537 (p : Program) (P : Params) : Obj := fnAt (stTop p 51) "_law_walk" (.none) "law_xw0238_01" 870 536
noncomputable def o541 (p : Program) (P : Params) : Obj := codeAt #[(sv "_law_walk_right" 934), (sv "_law_walk_right" 935), (sv "/claim/cut.py" 936), .int 371 0, .int 1 0, .int 0 0, .int 0 0, .int 3 0, .ref 538, .bool true, .int 181 0, .ref 539, .none, .none, .none, .ref 540, .int 937 0, .int 371 0, (sv "/claim/cut.py" 938)]
noncomputable def o542 (p : Program) (P : Params) : Obj := fnAt (stTop p 52) "_law_walk_right" (.none) "law_xw0238_01" 870 541
noncomputable def o548 (p : Program) (P : Params) : Obj := codeAt #[(sv "_law_path" 940), (sv "_law_path" 941), (sv "/claim/cut.py" 942), .int 381 0, .int 1 0, .int 0 0, .int 0 0, .int 3 0, .ref 543, .bool true, .int 181 0, .ref 544, .none, .ref 545, .ref 546, .ref 547, .int 949 0, .int 381 0, (sv "/claim/cut.py" 950)]
noncomputable def o549 (p : Program) (P : Params) : Obj := fnAt (stTop p 53) "_law_path" (.none) "law_xw0238_01" 870 548
noncomputable def o555 (p : Program) (P : Params) : Obj := codeAt #[(sv "_law_hints_right" 952), (sv "_law_hints_right" 953), (sv "/claim/cut.py" 954), .int 390 0, .int 4 0, .int 0 0, .int 0 0, .int 3 0, .ref 550, .bool true, .int 181 0, .ref 551, .none, .ref 552, .ref 553, .ref 554, .int 962 0, .int 390 0, (sv "/claim/cut.py" 963)]
noncomputable def o556 (p : Program) (P : Params) : Obj := fnAt (stTop p 54) "_law_hints_right" (.none) "law_xw0238_01" 870 555
noncomputable def o560 (p : Program) (P : Params) : Obj := codeAt #[(sv "law" 965), (sv "law" 966), (sv "/claim/cut.py" 967), .int 401 0, .int 1 0, .int 0 0, .int 0 0, .int 3 0, .ref 557, .bool true, .int 181 0, .ref 558, .none, .none, .none, .ref 559, .int 968 0, .int 401 0, (sv "/claim/cut.py" 969)]
noncomputable def o561 (p : Program) (P : Params) : Obj := fnAt (stTop p 55) "law" (.none) "law_xw0238_01" 870 560
noncomputable def KF (p : Program) (P : Params) : Frag := (nat_lit 2, o2 p P) :: (nat_lit 3, o3 p P) :: (nat_lit 27, o27 p P) :: (nat_lit 28, o28 p P) :: (nat_lit 34, o34 p P) :: (nat_lit 35, o35 p P) :: (nat_lit 163, o163 p P) :: (nat_lit 164, o164 p P) :: (nat_lit 170, o170 p P) :: (nat_lit 171, o171 p P) :: (nat_lit 177, o177 p P) :: (nat_lit 178, o178 p P) :: (nat_lit 191, o191 p P) :: (nat_lit 192, o192 p P) :: (nat_lit 212, o212 p P) :: (nat_lit 213, o213 p P) :: (nat_lit 219, o219 p P) :: (nat_lit 220, o220 p P) :: (nat_lit 233, o233 p P) :: (nat_lit 234, o234 p P) :: (nat_lit 240, o240 p P) :: (nat_lit 241, o241 p P) :: (nat_lit 247, o247 p P) :: (nat_lit 248, o248 p P) :: (nat_lit 254, o254 p P) :: (nat_lit 255, o255 p P) :: (nat_lit 261, o261 p P) :: (nat_lit 262, o262 p P) :: (nat_lit 268, o268 p P) :: (nat_lit 269, o269 p P) :: (nat_lit 275, o275 p P) :: (nat_lit 276, o276 p P) :: (nat_lit 299, o299 p P) :: (nat_lit 300, o300 p P) :: (nat_lit 320, o320 p P) :: (nat_lit 321, o321 p P) :: (nat_lit 334, o334 p P) :: (nat_lit 335, o335 p P) :: (nat_lit 350, o350 p P) :: (nat_lit 351, o351 p P) :: (nat_lit 360, o360 p P) :: (nat_lit 361, o361 p P) :: (nat_lit 367, o367 p P) :: (nat_lit 368, o368 p P) :: (nat_lit 376, o376 p P) :: (nat_lit 382, o382 p P) :: (nat_lit 383, o383 p P) :: (nat_lit 389, o389 p P) :: (nat_lit 390, o390 p P) :: (nat_lit 406, o406 p P) :: (nat_lit 407, o407 p P) :: (nat_lit 417, o417 p P) :: (nat_lit 418, o418 p P) :: (nat_lit 424, o424 p P) :: (nat_lit 425, o425 p P) :: (nat_lit 431, o431 p P) :: (nat_lit 432, o432 p P) :: (nat_lit 438, o438 p P) :: (nat_lit 439, o439 p P) :: (nat_lit 452, o452 p P) :: (nat_lit 453, o453 p P) :: (nat_lit 469, o469 p P) :: (nat_lit 470, o470 p P) :: (nat_lit 487, o487 p P) :: (nat_lit 488, o488 p P) :: (nat_lit 490, o490 p P) :: (nat_lit 491, o491 p P) :: (nat_lit 501, o501 p P) :: (nat_lit 502, o502 p P) :: (nat_lit 508, o508 p P) :: (nat_lit 509, o509 p P) :: (nat_lit 515, o515 p P) :: (nat_lit 516, o516 p P) :: (nat_lit 522, o522 p P) :: (nat_lit 523, o523 p P) :: (nat_lit 529, o529 p P) :: (nat_lit 530, o530 p P) :: (nat_lit 536, o536 p P) :: (nat_lit 537, o537 p P) :: (nat_lit 541, o541 p P) :: (nat_lit 542, o542 p P) :: (nat_lit 548, o548 p P) :: (nat_lit 549, o549 p P) :: (nat_lit 555, o555 p P) :: (nat_lit 556, o556 p P) :: (nat_lit 560, o560 p P) :: (nat_lit 561, o561 p P) :: []
noncomputable def K (P : Params) : Frag := (nat_lit 2, o2 pw P) :: (nat_lit 3, o3 pw P) :: (nat_lit 27, o27 pw P) :: (nat_lit 28, o28 pw P) :: (nat_lit 34, o34 pw P) :: (nat_lit 35, o35 pw P) :: (nat_lit 163, o163 pw P) :: (nat_lit 164, o164 pw P) :: (nat_lit 170, o170 pw P) :: (nat_lit 171, o171 pw P) :: (nat_lit 177, o177 pw P) :: (nat_lit 178, o178 pw P) :: (nat_lit 191, o191 pw P) :: (nat_lit 192, o192 pw P) :: (nat_lit 212, o212 pw P) :: (nat_lit 213, o213 pw P) :: (nat_lit 219, o219 pw P) :: (nat_lit 220, o220 pw P) :: (nat_lit 233, o233 pw P) :: (nat_lit 234, o234 pw P) :: (nat_lit 240, o240 pw P) :: (nat_lit 241, o241 pw P) :: (nat_lit 247, o247 pw P) :: (nat_lit 248, o248 pw P) :: (nat_lit 254, o254 pw P) :: (nat_lit 255, o255 pw P) :: (nat_lit 261, o261 pw P) :: (nat_lit 262, o262 pw P) :: (nat_lit 268, o268 pw P) :: (nat_lit 269, o269 pw P) :: (nat_lit 275, o275 pw P) :: (nat_lit 276, o276 pw P) :: (nat_lit 299, o299 pw P) :: (nat_lit 300, o300 pw P) :: (nat_lit 320, o320 pw P) :: (nat_lit 321, o321 pw P) :: (nat_lit 334, o334 pw P) :: (nat_lit 335, o335 pw P) :: (nat_lit 350, o350 pw P) :: (nat_lit 351, o351 pw P) :: (nat_lit 360, o360 pw P) :: (nat_lit 361, o361 pw P) :: (nat_lit 367, o367 pw P) :: (nat_lit 368, o368 pw P) :: (nat_lit 376, o376 pw P) :: (nat_lit 382, o382 pw P) :: (nat_lit 383, o383 pw P) :: (nat_lit 389, o389 pw P) :: (nat_lit 390, o390 pw P) :: (nat_lit 406, o406 pw P) :: (nat_lit 407, o407 pw P) :: (nat_lit 417, o417 pw P) :: (nat_lit 418, o418 pw P) :: (nat_lit 424, o424 pw P) :: (nat_lit 425, o425 pw P) :: (nat_lit 431, o431 pw P) :: (nat_lit 432, o432 pw P) :: (nat_lit 438, o438 pw P) :: (nat_lit 439, o439 pw P) :: (nat_lit 452, o452 pw P) :: (nat_lit 453, o453 pw P) :: (nat_lit 469, o469 pw P) :: (nat_lit 470, o470 pw P) :: (nat_lit 487, o487 pw P) :: (nat_lit 488, o488 pw P) :: (nat_lit 490, o490 pw P) :: (nat_lit 491, o491 pw P) :: (nat_lit 501, o501 pw P) :: (nat_lit 502, o502 pw P) :: (nat_lit 508, o508 pw P) :: (nat_lit 509, o509 pw P) :: (nat_lit 515, o515 pw P) :: (nat_lit 516, o516 pw P) :: (nat_lit 522, o522 pw P) :: (nat_lit 523, o523 pw P) :: (nat_lit 529, o529 pw P) :: (nat_lit 530, o530 pw P) :: (nat_lit 536, o536 pw P) :: (nat_lit 537, o537 pw P) :: (nat_lit 541, o541 pw P) :: (nat_lit 542, o542 pw P) :: (nat_lit 548, o548 pw P) :: (nat_lit 549, o549 pw P) :: (nat_lit 555, o555 pw P) :: (nat_lit 556, o556 pw P) :: (nat_lit 560, o560 pw P) :: (nat_lit 561, o561 pw P) :: []
noncomputable abbrev kAs : List Addr := [nat_lit 2, nat_lit 3, nat_lit 27, nat_lit 28, nat_lit 34, nat_lit 35, nat_lit 163, nat_lit 164, nat_lit 170, nat_lit 171, nat_lit 177, nat_lit 178, nat_lit 191, nat_lit 192, nat_lit 212, nat_lit 213, nat_lit 219, nat_lit 220, nat_lit 233, nat_lit 234, nat_lit 240, nat_lit 241, nat_lit 247, nat_lit 248, nat_lit 254, nat_lit 255, nat_lit 261, nat_lit 262, nat_lit 268, nat_lit 269, nat_lit 275, nat_lit 276, nat_lit 299, nat_lit 300, nat_lit 320, nat_lit 321, nat_lit 334, nat_lit 335, nat_lit 350, nat_lit 351, nat_lit 360, nat_lit 361, nat_lit 367, nat_lit 368, nat_lit 376, nat_lit 382, nat_lit 383, nat_lit 389, nat_lit 390, nat_lit 406, nat_lit 407, nat_lit 417, nat_lit 418, nat_lit 424, nat_lit 425, nat_lit 431, nat_lit 432, nat_lit 438, nat_lit 439, nat_lit 452, nat_lit 453, nat_lit 469, nat_lit 470, nat_lit 487, nat_lit 488, nat_lit 490, nat_lit 491, nat_lit 501, nat_lit 502, nat_lit 508, nat_lit 509, nat_lit 515, nat_lit 516, nat_lit 522, nat_lit 523, nat_lit 529, nat_lit 530, nat_lit 536, nat_lit 537, nat_lit 541, nat_lit 542, nat_lit 548, nat_lit 549, nat_lit 555, nat_lit 556, nat_lit 560, nat_lit 561]
theorem K_eq : K = KF pw := rfl
noncomputable def V : Program := view pw [55]
theorem V_eq : V = view pw [55] := rfl
noncomputable abbrev looseN : List Str := ["_wall", "seek_word", "past_word", "PagebaseError", "CorruptError", "MisuseError", "REPLACEMENT", "lead_of", "text_of", "code_at", "NUMBER_SIZES", "ZERO_TYPE", "ONE_TYPE", "BLOB_TYPE", "get_varint", "get_fixed", "serial_size", "value_of", "head_of", "decode_record", "record_column", "EphemeralRows", "Node", "Expr", "Literal", "fold", "ROWS_OF_TABLE", "ROW_BY_TABLE", "Path", "put_equal", "new_index_path", "is_wanted", "is_let", "Index", "Bound", "_law_pool", "_law_take", "_law_one", "_law_stand", "_law_is_past", "_law_walk", "_law_walk_right", "_law_path", "_law_hints_right"].map Str.ofString
theorem mainO : ∀ (w : World) (os : OsState), runThen (stmtsT (segRunT treeTable pw w 11 (some (.ref 6)) 1 900) (fun st pos => ⟨(execs [st] envE).wrap doneF deadEnd id id, cE, pos, [topFrame p00]⟩) bodyE (Sa w os) p00) (fun S p' => topRun treeTable pw w 11 (some (.ref 6)) 3 S.abs ⟨doneF .next, cE, p', [topFrame p00]⟩)
    (fun r => (staticsOk (importedModules pw.main.body) (boot_heap w.params) r.heap && namesBound pw r.heap && gensDone r && laidKept (boot_heap w.params) r.heap, kAs.map r.heap.get?, openSeen V looseN (importedModules pw.main.body) (fun s => xlAt V [] s && recOk (RowW.records (OpenRow.toRowW (OpenLaw.row PySem.Challenge.rw_xw0238_01))) s) true r)) =
    some (bodyE.map fun _ => (Flow.next, cE), true, (K w.params).map (fun p => some p.2), openGood V looseN) := by
  rw [K_eq, V_eq, PySem.W.Fast.te14364793385576792824, PySem.W.Fast.te10110043849684766642, PySem.W.Fast.te12563942051412417395, PySem.W.Fast.te14082659384304107361, PySem.W.Fast.te4187177175401517315, PySem.W.Fast.te5923862056798008813]
  exact fun w os => by kernel_rfl
theorem open0 : ∀ w : World, (fencedOpening treeTable pw w 60000).map (fun s => (s.heap, s.gens, s.drawn, s.toks)) = some (boot_heap w.params, Array.mk [], boot_drawn, boot_toks) :=
  boot_open (by kernel_rfl) (by kernel_rfl) fun s => by kernel_rfl
theorem size0 : ∀ w : World, ((boot_heap w.params).isNs mainGlobals && (Array.mk ([] : List GenState)).size == 0, (boot_heap w.params).objs.size, (boot_heap w.params).nsMap mainGlobals "__annotations__") = (true, 11, some (.ref 6)) := fun w => by kernel_rfl
theorem body_len : bodyE.length = 56 := by kernel_rfl
noncomputable abbrev HK : Hook := kHook K kAs (fun _ => by kernel_rfl)
theorem leftO : LeftO pw V looseN (fun s => xlAt V [] s && recOk (RowW.records (OpenRow.toRowW (OpenLaw.row PySem.Challenge.rw_xw0238_01))) s) (fun s => kAs.map s.heap.get?) (fun w => (K w.params).map fun p => some p.2) 60000 :=
  left_of (p := pw) (q := V) (loose := looseN) (Xt := fun s => xlAt V [] s && recOk (RowW.records (OpenRow.toRowW (OpenLaw.row PySem.Challenge.rw_xw0238_01))) s) (Yf := fun s => kAs.map s.heap.get?) (Ya := fun w => (K w.params).map fun p => some p.2) (N := 60000) (H := boot_heap) (gs := Array.mk []) (d := boot_drawn) (k := boot_toks)
    (m₀ := 11) (n₁ := 12) (n₂ := 3) (n₃ := 3) (fuel := 900) (ann := some (.ref 6)) (S0 := S0) (Sa := Sa) (b := bodyE) (env := envE) (c := cE) (q0 := p00) (pos := p00) (pos' := p00) open0 S0_abs size0 (Eq.refl cE) pre_run block_run mainO (by kernel_rfl)
theorem okO : (chainsOk V && opensWell PySem.Challenge.rw_xw0238_01.row.prog && (frees PySem.Challenge.rw_xw0238_01.row.toRowW && PySem.Challenge.rw_xw0238_01.row.within.isEmpty)) = true := by decide +kernel
theorem tabO : PySem.Challenge.rw_xw0238_01.row.prog.tablesWhole = true := by decide +kernel
theorem namesO : namesOk V (looseW V looseN) (namesW V looseN) = true := by decide +kernel
set_option maxHeartbeats 4000000 in
theorem wellO : PySem.Challenge.rw_xw0238_01.wellSaid = true := by
  rw [PySem.W.Fast.te9446332074065402090]
  unfold PySem.W.Fast.tw9446332074065402090 PySem.W.Fast.tw17960256430627541270 PySem.W.Fast.tw2436336058641802641 PySem.W.Fast.tw12908688711261696721
  repeat' (with_reducible refine look_both ?_ ?_)
  all_goals decide +kernel
theorem fill : PySem.Challenge.rw_xw0238_01.about = PySem.Challenge.rw_xw0238_01.about ∧ K = K := by k_fill; exact ⟨rfl, rfl⟩

/-- what a call may lean on at its caller's -/
structure Env0 (w : World) (loose : List Str) (mean : ExcName → Option Value) (mg mb : Str → Option Value) (dp un d u : Nat) (gd : Option (List Code)) (cn : Str) (cs : Scope) (a : Addr) (ccd : Value) (cl : List (Str × Addr)) (outer : List PySem.Env) (A₀ : Around) (base h₀ : Heap) (L : Addr) (m : Str → Option Value) (h : Heap) (sub : List (Addr × Obj)) : Prop where
  B : Below A₀ base outer h₀
  F : Fr h₀ L h m
  X : (Mine.K w.params).In h₀
  N : News h₀ L h sub
  T : Top Mine.V loose mean mg mb h₀
  k : cs.kind = .function
  d : dp + d < recursionLimit
  u : un + u < cLine

/-- all of the heap outside the addresses of sub stands as it stood -/
def Kept (h h' : Heap) (sub : List (Addr × Obj)) : Prop := ∀ b o, h.get? b = some o → b ∉ sub.map (·.1) → h'.get? b = some o

/-- what is handed back and was not handed over is new -/
def Fresh (h : Heap) (sub sub' : List (Addr × Obj)) : Prop := ∀ q ∈ sub', q.1 ∈ sub.map (·.1) ∨ h.get? q.1 = none

/-- a contract: f called with vs, the objects of sub handed -/
def Con (w : World) (f : Addr) (d u : Nat) (vs : List Value) (sub : List (Addr × Obj)) (Pre : Heap → Prop) (Post : Value → Heap → List (Addr × Obj) → Prop) : Prop :=
  ∀ (loose : List Str) (mean : ExcName → Option Value) (mg mb : Str → Option Value) (dp un : Nat) (gd : Option (List Code)) (cn : Str) (cs : Scope) (a : Addr) (ccd : Value) (cl : List (Str × Addr)) (outer : List PySem.Env) (A₀ : Around) (base h₀ : Heap) (L : Addr) (m : Str → Option Value) (s : Shared) (Q E : Value → Shared → Prop),
    Env0 w loose mean mg mb dp un d u gd cn cs a ccd cl outer A₀ base h₀ L m s.heap sub → Pre s.heap →
    (∀ r sub' h' tk', Fr h₀ L h' m → News h₀ L h' sub' → Kept s.heap h' sub → Fresh s.heap sub sub' → Post r h' sub' → Q r { s with heap := h', toks := tk' }) →
    wpAny (model PySem.Challenge.rw_xw0238_01.row.prog w) (ktrTop dp un gd cn cs L a ccd cl outer) (call (.ref f) vs) Q E s

theorem code_sub {prog : Program} {w : World} {A A₀ : Around} {s : Shared} {K : Frag} {L : Addr} {h₀ base : Heap} {m mg mb : Str → Option Value} {news : List (Addr × Obj)} {p : Program} {loose : List Str} {mean : ExcName → Option Value}
    {env : PySem.Env} {outer : List PySem.Env} {R : Result → Shared → Prop} {name qual : Str} {params : Arguments} {body : List Stmt} {scope : Scope} {dV kV doc pm cdv ct oc : Value} {an od : Option Addr} {osl : Array (Option Value)} {f : Addr} {args : Args} {binds : List (Str × Value)}
    (B : Below A₀ base outer h₀) (F : Fr h₀ L s.heap m) (X₀ : K.In h₀) (N : News h₀ L s.heap news) (T : Top p loose mean mg mb h₀) (hA : A.frames = some (env :: outer)) (hf : env.frame = some L) (hke : env.scope.kind = .function)
    (ho : K.lookup f = some ⟨oc, od, .func (fnOf name qual params body scope dV kV doc pm an cdv ct), osl⟩) (hcd : codeIn K cdv qual = true) (hroom : A.depth < recursionLimit)
    (hbind : BindsTo s (fnOf name qual params body scope dV kV doc pm an cdv ct) args binds) (hloc : ∀ y ∈ binds, scope.names.lookup y.1 = some .local)
    (h : ∀ g L' h₁, Kept s.heap g news → Fr h₀ L g m → Fr g L' h₁ (fun y => binds.reverse.lookup y) → News g L' h₁ news → Below A base (env :: outer) g → K.In g → Top p loose mean mg mb g → (∀ p ∈ news, p.1 < L') →
      wpAny (model prog w) (A.deeper (envOf qual scope L' f cdv)) (execs body (envOf qual scope L' f cdv))
        (fun fl s' => LeaveK h₀ L m g R (match fl with | .ret v => v | _ => .none) s')
        (fun e s' => wpAny (model prog w) (A.deeper (envOf qual scope L' f cdv)) (leaving (envOf qual scope L' f cdv) e) (fun _ s'' => R (.error e) s'') (fun e' s'' => R (.error e') s'') s')
        { s with heap := h₁, toks := s.toks + binds.length })
    (hco : scope.isCoroutine = false) (hgen : scope.isGenerator = false) (hk : scope.kind = .function)
    (hcell : ∀ x ∈ scope.names, x.2 ≠ .cell) : codeAny (model prog w) A (.call (.ref f) args) R s := by
  obtain ⟨FG, BG, st, lv⟩ := groundX (R := R) B F N hA hf hke
  refine codeAny_call_def (fd := fnOf name qual params body scope dV kV doc pm an cdv ct) (body := body) (binds := binds) hroom ((X₀.keeps F.keep) _ _ ho) rfl (T.nolimit.keeps F.keep) (codeRec_of (X₀.keeps F.keep) hcd) rfl hbind hcell hloc (fun h₁ hns hk₁ => ?_) hco hgen hk
  refine wpAny_mono (h _ s.heap.objs.size h₁ (fun b o e n => hideAll_get _ e n) FG ?_ ?_ BG (X₀.keeps st) (T.keeps st) ?_) (fun fl s' hl => lv _ _ hl) fun _ _ y => y
  · exact ⟨hns, fun b o e => hk₁ b o (of_hideAll _ e), Nat.le_of_eq (hideAll_size _ _)⟩
  · intro q hq
    exact ⟨hk₁ _ _ (N q hq).1, Nat.ne_of_lt (Heap.lt_size (N q hq).1), hideAll_none _ (List.mem_map_of_mem hq)⟩
  · intro q hq
    exact Heap.lt_size (N q hq).1

theorem fresh_of {h g h' : Heap} {L' : Addr} {sub sub' : List (Addr × Obj)} (K : Kept h g sub) (N : News g L' h' sub') : Fresh h sub sub' := by
  intro q hq
  by_cases hm : q.1 ∈ sub.map (·.1)
  · exact .inl hm
  · cases e : h.get? q.1 with
    | none => exact .inr rfl
    | some o => have := (N q hq).2.2; rw [K _ _ e hm] at this; cases this
theorem Kept.trans {h₁ h₂ h₃ : Heap} {sub : List (Addr × Obj)} (a : Kept h₁ h₂ sub) (b : ∀ x o, h₂.get? x = some o → h₃.get? x = some o) : Kept h₁ h₃ sub := fun x o e n => b x o (a x o e n)

section
variable {h₀ h h' : Heap} {L D : Addr} {news sub sub' new : List (Addr × Obj)} {o o' : Obj} {g : Obj → List (Addr × Obj)}
/-- behind a call that turned at most the object at D of those handed, each entry of the ledger but D's stands -/
theorem after_one (N : News h₀ L h news) (Ns : News h₀ L h sub) (N' : News h₀ L h' sub') (K : Kept h h' sub) (hs : ∀ q ∈ sub, q.1 ≠ D → q ∈ sub') : ∀ p ∈ news, p.1 ≠ D → h'.get? p.1 = some p.2 ∧ p.1 ≠ L ∧ h₀.get? p.1 = none := by
  intro p hp hne
  refine ⟨?_, (N p hp).2⟩
  by_cases hm : p.1 ∈ sub.map (·.1)
  · obtain ⟨q, hq, e⟩ := List.mem_map.mp hm
    have h1 := (N' q (hs q hq (by rw [e]; exact hne))).1
    have h2 := (Ns q hq).1
    rw [e, (N p hp).1] at h2
    rw [e] at h1
    rw [h1, Option.some.inj h2]
  · exact K _ _ (N p hp).1 hm
theorem after_upd (N : News h₀ L h news) (Ns : News h₀ L h sub) (N' : News h₀ L h' sub') (K : Kept h h' sub) (U : UpdF D o news g) (hs : ∀ q ∈ sub, q.1 ≠ D → q ∈ sub') (hd : (D, o') ∈ sub') (hn : ∀ q ∈ new, q ∈ sub') : News h₀ L h' (new ++ g o') := by
  obtain ⟨pre, post, e1, e2, h1, h2⟩ := U.split
  intro p hp
  rcases List.mem_append.mp hp with hp | hp
  · exact N' p (hn p hp)
  · rw [e2 o'] at hp
    rcases List.mem_append.mp hp with hp | hp
    · exact after_one N Ns N' K hs p (by rw [e1]; exact List.mem_append_left _ hp) (h1 p hp)
    · rcases List.mem_cons.mp hp with rfl | hp
      · exact N' _ hd
      · exact after_one N Ns N' K hs p (by rw [e1]; exact List.mem_append_right _ (.tail _ hp)) (h2 p hp)
theorem after_same (N : News h₀ L h news) (Ns : News h₀ L h sub) (N' : News h₀ L h' sub') (K : Kept h h' sub) (hs : ∀ q ∈ sub, q ∈ sub') (hn : ∀ q ∈ new, q ∈ sub') : News h₀ L h' (new ++ news) := by
  intro p hp
  rcases List.mem_append.mp hp with hp | hp
  · exact N' p (hn p hp)
  · by_cases hm : p.1 ∈ sub.map (·.1)
    · obtain ⟨q, hq, e⟩ := List.mem_map.mp hm
      have h2 := (Ns q hq).1
      rw [e, (N p hp).1] at h2
      have e2 : q = p := Prod.ext e (Option.some.inj h2).symm
      exact N' p (e2 ▸ hs q hq)
    · exact ⟨K _ _ (N p hp).1 hm, (N p hp).2⟩
theorem kept_all (Ns : News h₀ L h sub) (N' : News h₀ L h' sub') (K : Kept h h' sub) (hs : ∀ q ∈ sub, q ∈ sub') : ∀ b x, h.get? b = some x → h'.get? b = some x := by
  intro b x e
  by_cases hm : b ∈ sub.map (·.1)
  · obtain ⟨q, hq, rfl⟩ := List.mem_map.mp hm
    have h2 := (Ns q hq).1
    rw [e] at h2
    rw [(N' q (hs q hq)).1, ← Option.some.inj h2]
  · exact K b x e hm
theorem kept_one (Ns : News h₀ L h sub) (N' : News h₀ L h' sub') (K : Kept h h' sub) (hs : ∀ q ∈ sub, q.1 ≠ D → q ∈ sub') : Kept h h' [(D, o)] := by
  intro b x e hb
  have hbd : b ≠ D := fun q => hb (by rw [q]; simp)
  by_cases hm : b ∈ sub.map (·.1)
  · obtain ⟨q, hq, rfl⟩ := List.mem_map.mp hm
    have h2 := (Ns q hq).1
    rw [e] at h2
    rw [(N' q (hs q hq hbd)).1, ← Option.some.inj h2]
  · exact K b x e hm
theorem fresh_new (Fs : Fresh h sub sub') (hn : ∀ q ∈ new, q ∈ sub') (ho : ∀ q ∈ new, q.1 ∉ sub.map (·.1)) : ∀ q ∈ new, h.get? q.1 = none := fun q hq => (Fs q (hn q hq)).resolve_left (ho q hq)
end

theorem new_ne {h₀ h : Heap} {L : Addr} {news new : List (Addr × Obj)} (N : News h₀ L h news) (hf : ∀ q ∈ new, h.get? q.1 = none) : ∀ p ∈ news, ∀ q ∈ new, @Ne Nat p.1 q.1 := fun p hp q hq e => by
  have h1 := (N p hp).1
  have h2 := hf q hq
  have e' : p.1 = q.1 := e
  rw [e', h2] at h1
  cases h1

/-- a call that turns nothing of what is handed, and makes what may be forgotten or is new -/
def PNew (sub : List (Addr × Obj)) (P : Value → List (Addr × Obj) → Prop) (v : Value) (_h : Heap) (sub' : List (Addr × Obj)) : Prop :=
  ∃ new, P v new ∧ (∀ q ∈ sub, q ∈ sub') ∧ (∀ q ∈ new, q ∈ sub') ∧ ∀ q ∈ new, q.1 ∉ sub.map (·.1)
/-- a call that turns the object at D -/
def PUpd (sub : List (Addr × Obj)) (D : Addr) (P : Value → Obj → List (Addr × Obj) → Prop) (v : Value) (_h : Heap) (sub' : List (Addr × Obj)) : Prop :=
  ∃ o' new, P v o' new ∧ (D, o') ∈ sub' ∧ (∀ q ∈ sub, q.1 ≠ D → q ∈ sub') ∧ (∀ q ∈ new, q ∈ sub') ∧ ∀ q ∈ new, q.1 ∉ sub.map (·.1)

section
variable {w : World} {f : Addr} {d u : Nat} {args : List Value} {sub news : List (Addr × Obj)} {Pre : Heap → Prop} {loose : List Str} {mean : ExcName → Option Value} {mg mb : Str → Option Value} {dp un : Nat} {gd : Option (List Code)} {cn : Str} {cs : Scope} {aa : Addr} {ccd : Value} {cl : List (Str × Addr)} {outer : List PySem.Env} {A₀ : Around} {base h₀ : Heap} {L : Addr} {m : Str → Option Value} {s : Shared} {Q E : Value → Shared → Prop}
theorem use_new {P : Value → List (Addr × Obj) → Prop} (C : Con w f d u args sub Pre (PNew sub P)) (Z : Env0 w loose mean mg mb dp un d u gd cn cs aa ccd cl outer A₀ base h₀ L m s.heap news) (hs : ∀ p ∈ sub, p ∈ news) (pre : Pre s.heap)
    (ret : ∀ v new h' tk', Fr h₀ L h' m → News h₀ L h' (new ++ news) → (∀ b o, s.heap.get? b = some o → h'.get? b = some o) → (∀ p ∈ news, ∀ q ∈ new, @Ne Nat p.1 q.1) → P v new → Q v { s with heap := h', toks := tk' }) :
    wpAny (model PySem.Challenge.rw_xw0238_01.row.prog w) (ktrTop dp un gd cn cs L aa ccd cl outer) (call (.ref f) args) Q E s := by
  have Ns : News h₀ L s.heap sub := fun p hp => Z.N p (hs p hp)
  refine C loose mean mg mb dp un gd cn cs aa ccd cl outer A₀ base h₀ L m s Q E ⟨Z.B, Z.F, Z.X, Ns, Z.T, Z.k, Z.d, Z.u⟩ pre ?_
  rintro v sub' h' tk' F' N' K' Fs ⟨new, hP, h1, h2, h3⟩
  exact ret v new h' tk' F' (after_same Z.N Ns N' K' h1 h2) (kept_all Ns N' K' h1) (new_ne Z.N (fresh_new Fs h2 h3)) hP
theorem use_newP {P : Value → List (Addr × Obj) → Prop} (C : Con w f d u args sub Pre (PNew sub P)) (Z : Env0 w loose mean mg mb dp un d u gd cn cs aa ccd cl outer A₀ base h₀ L m s.heap news) (pre : Pre s.heap) (hs : ∀ p ∈ sub, p ∈ news)
    (ret : ∀ v new h' tk', Fr h₀ L h' m → News h₀ L h' (new ++ news) → (∀ b o, s.heap.get? b = some o → h'.get? b = some o) → (∀ p ∈ news, ∀ q ∈ new, @Ne Nat p.1 q.1) → P v new → Q v { s with heap := h', toks := tk' }) :
    wpAny (model PySem.Challenge.rw_xw0238_01.row.prog w) (ktrTop dp un gd cn cs L aa ccd cl outer) (call (.ref f) args) Q E s := use_new C Z hs pre ret
theorem use_upd {D : Addr} {o : Obj} {g : Obj → List (Addr × Obj)} {P : Value → Obj → List (Addr × Obj) → Prop} (C : Con w f d u args sub Pre (PUpd sub D P)) (Z : Env0 w loose mean mg mb dp un d u gd cn cs aa ccd cl outer A₀ base h₀ L m s.heap news) (hs : ∀ p ∈ sub, p ∈ news) (U : UpdF D o news g) (pre : Pre s.heap)
    (ret : ∀ v o' new h' tk', Fr h₀ L h' m → News h₀ L h' (new ++ g o') → Kept s.heap h' [(D, o)] → (∀ p ∈ news, ∀ q ∈ new, @Ne Nat p.1 q.1) → P v o' new → Q v { s with heap := h', toks := tk' }) :
    wpAny (model PySem.Challenge.rw_xw0238_01.row.prog w) (ktrTop dp un gd cn cs L aa ccd cl outer) (call (.ref f) args) Q E s := by
  have Ns : News h₀ L s.heap sub := fun p hp => Z.N p (hs p hp)
  refine C loose mean mg mb dp un gd cn cs aa ccd cl outer A₀ base h₀ L m s Q E ⟨Z.B, Z.F, Z.X, Ns, Z.T, Z.k, Z.d, Z.u⟩ pre ?_
  rintro v sub' h' tk' F' N' K' Fs ⟨o', new, hP, h1, h2, h3, h4⟩
  exact ret v o' new h' tk' F' (after_upd Z.N Ns N' K' U h2 h1 h3) (kept_one Ns N' K' h2) (new_ne Z.N (fresh_new Fs h3 h4)) hP
end
theorem news_ne {h₀ h : Heap} {L a b : Addr} {news : List (Addr × Obj)} {o o' : Obj} (N : News h₀ L h news) (h1 : (a, o) ∈ news) (h2 : (b, o') ∈ news) (hc : o.cls ≠ o'.cls) : @Ne Nat a b := fun e => by
  have e1 := (N _ h1).1
  have e2 := (N _ h2).1
  dsimp only at e1 e2
  rw [e] at e1
  rw [e1] at e2
  exact hc (by rw [Option.some.inj e2])
local macro_rules | `(tactic| k_ne) => `(tactic| k_extra "my k_ne")
local macro_rules | `(tactic| walk_at "my enter") => `(tactic| (refine' code_sub ?k1 ?k2 ?k3 ?k4 ?k5 ?kA ?kF ?kK ?k6 ?k7 ?k8 ?k9 ?kB ?_ ?c2 ?c3 ?c4 ?c5; (case kA => exact rfl); (case kF => exact rfl); (case kK => assumption); (case k1 => k_asm); (case k2 => k_asm); (case k3 => k_asm); (case k4 => k_asm); (case k5 => k_asm); (case k6 => k_is); (case k7 => k_is); (case k8 => ktr_room); (case k9 => walk_at "my binds"); (case c5 => decide); (case kB => exact locs rfl); (case c2 => exact rfl); (case c3 => exact rfl); (case c4 => exact rfl); k_whole; intro g' L' h' KG' FG' F' N' B' X' T' l1; (try k_lt l1); (try dsimp only); (try k_fold)))
local macro_rules | `(tactic| walk_at "my nest") => `(tactic| (refine' code_def ?k1 ?k2 ?k3 ?k4 ?k5 ?kA ?kF ?kK ?k6 ?k7 ?k8 ?k9 ?kB ?_ ?c2 ?c3 ?c4 ?c5; (case kA => exact rfl); (case kF => exact rfl); (case kK => first | exact rfl | assumption); (case k1 => k_asm); (case k2 => k_asm); (case k3 => k_asm); (case k4 => k_asm); (case k5 => k_asm); (case k6 => k_is); (case k7 => k_is); (case k8 => ktr_room); (case k9 => first | walk_at "my binds" | exact binds_K (by k_in) rfl (by k_is) rfl rfl rfl); (case c5 => decide); (case kB => exact locs rfl); (case c2 => exact rfl); (case c3 => exact rfl); (case c4 => exact rfl); k_whole; intro g' L' h' FG' F' N' B' X' T'; (try dsimp only); (try k_lift B'); (try k_fold)))
local macro_rules | `(tactic| walk_at "call ref") => `(tactic| (k_here; (refine wpAny_call ?_); k_dflt (walk_at "my nest")))
local macro_rules | `(tactic| walk_at "call ref") => `(tactic| k_extra "my call ref")
theorem words1 : True := by
  k_with "my lt" => (first | (with_reducible first | exact And.left (by assumption) | exact (by assumption) | exact And.left (And.right (by assumption)) | exact (And.right (by assumption)) | exact And.left (And.right (And.right (by assumption))) | exact (And.right (And.right (by assumption))) | exact And.left (And.right (And.right (And.right (by assumption)))) | exact (And.right (And.right (And.right (by assumption)))) | exact And.left (And.right (And.right (And.right (And.right (by assumption))))) | exact (And.right (And.right (And.right (And.right (by assumption))))) | exact And.left (And.right (And.right (And.right (And.right (And.right (by assumption)))))) | exact (And.right (And.right (And.right (And.right (And.right (by assumption)))))) | exact And.left (And.right (And.right (And.right (And.right (And.right (And.right (by assumption))))))) | exact (And.right (And.right (And.right (And.right (And.right (And.right (by assumption))))))) | exact And.left (And.right (And.right (And.right (And.right (And.right (And.right (And.right (by assumption)))))))) | exact (And.right (And.right (And.right (And.right (And.right (And.right (And.right (by assumption)))))))) | exact And.left (And.right (And.right (And.right (And.right (And.right (And.right (And.right (And.right (by assumption))))))))) | exact (And.right (And.right (And.right (And.right (And.right (And.right (And.right (And.right (by assumption))))))))) | exact And.left (And.right (And.right (And.right (And.right (And.right (And.right (And.right (And.right (And.right (by assumption)))))))))) | exact (And.right (And.right (And.right (And.right (And.right (And.right (And.right (And.right (And.right (by assumption)))))))))) | exact And.left (And.right (And.right (And.right (And.right (And.right (And.right (And.right (And.right (And.right (And.right (by assumption))))))))))) | exact (And.right (And.right (And.right (And.right (And.right (And.right (And.right (And.right (And.right (And.right (by assumption))))))))))) | exact And.left (And.right (And.right (And.right (And.right (And.right (And.right (And.right (And.right (And.right (And.right (And.right (by assumption)))))))))))) | exact (And.right (And.right (And.right (And.right (And.right (And.right (And.right (And.right (And.right (And.right (And.right (by assumption)))))))))))) | exact And.left (And.right (And.right (And.right (And.right (And.right (And.right (And.right (And.right (And.right (And.right (And.right (And.right (by assumption))))))))))))) | exact (And.right (And.right (And.right (And.right (And.right (And.right (And.right (And.right (And.right (And.right (And.right (And.right (by assumption))))))))))))) | exact And.left (And.right (And.right (And.right (And.right (And.right (And.right (And.right (And.right (And.right (And.right (And.right (And.right (And.right (by assumption)))))))))))))) | exact (And.right (And.right (And.right (And.right (And.right (And.right (And.right (And.right (And.right (And.right (And.right (And.right (And.right (by assumption)))))))))))))) | exact And.left (And.right (And.right (And.right (And.right (And.right (And.right (And.right (And.right (And.right (And.right (And.right (And.right (And.right (And.right (by assumption))))))))))))))) | exact (And.right (And.right (And.right (And.right (And.right (And.right (And.right (And.right (And.right (And.right (And.right (And.right (And.right (And.right (by assumption))))))))))))))) | exact And.left (And.right (And.right (And.right (And.right (And.right (And.right (And.right (And.right (And.right (And.right (And.right (And.right (And.right (And.right (And.right (by assumption)))))))))))))))) | exact (And.right (And.right (And.right (And.right (And.right (And.right (And.right (And.right (And.right (And.right (And.right (And.right (And.right (And.right (And.right (by assumption)))))))))))))))) | exact And.left (And.right (And.right (And.right (And.right (And.right (And.right (And.right (And.right (And.right (And.right (And.right (And.right (And.right (And.right (And.right (And.right (by assumption))))))))))))))))) | exact (And.right (And.right (And.right (And.right (And.right (And.right (And.right (And.right (And.right (And.right (And.right (And.right (And.right (And.right (And.right (And.right (by assumption))))))))))))))))) | exact And.left (And.right (And.right (And.right (And.right (And.right (And.right (And.right (And.right (And.right (And.right (And.right (And.right (And.right (And.right (And.right (And.right (And.right (by assumption)))))))))))))))))) | exact (And.right (And.right (And.right (And.right (And.right (And.right (And.right (And.right (And.right (And.right (And.right (And.right (And.right (And.right (And.right (And.right (And.right (by assumption)))))))))))))))))) | exact And.left (And.right (And.right (And.right (And.right (And.right (And.right (And.right (And.right (And.right (And.right (And.right (And.right (And.right (And.right (And.right (And.right (And.right (And.right (by assumption))))))))))))))))))) | exact (And.right (And.right (And.right (And.right (And.right (And.right (And.right (And.right (And.right (And.right (And.right (And.right (And.right (And.right (And.right (And.right (And.right (And.right (by assumption))))))))))))))))))) | exact And.left (And.right (And.right (And.right (And.right (And.right (And.right (And.right (And.right (And.right (And.right (And.right (And.right (And.right (And.right (And.right (And.right (And.right (And.right (And.right (by assumption)))))))))))))))))))) | exact (And.right (And.right (And.right (And.right (And.right (And.right (And.right (And.right (And.right (And.right (And.right (And.right (And.right (And.right (And.right (And.right (And.right (And.right (And.right (by assumption)))))))))))))))))))) | exact And.left (And.right (And.right (And.right (And.right (And.right (And.right (And.right (And.right (And.right (And.right (And.right (And.right (And.right (And.right (And.right (And.right (And.right (And.right (And.right (And.right (by assumption))))))))))))))))))))) | exact And.left (And.right (And.right (And.right (And.right (And.right (And.right (And.right (And.right (And.right (And.right (And.right (And.right (And.right (And.right (And.right (And.right (And.right (And.right (And.right (And.right (And.right (by assumption)))))))))))))))))))))) | exact And.left (And.right (And.right (And.right (And.right (And.right (And.right (And.right (And.right (And.right (And.right (And.right (And.right (And.right (And.right (And.right (And.right (And.right (And.right (And.right (And.right (And.right (And.right (by assumption))))))))))))))))))))))) | exact And.left (And.right (And.right (And.right (And.right (And.right (And.right (And.right (And.right (And.right (And.right (And.right (And.right (And.right (And.right (And.right (And.right (And.right (And.right (And.right (And.right (And.right (And.right (And.right (by assumption)))))))))))))))))))))))) | exact And.left (And.right (And.right (And.right (And.right (And.right (And.right (And.right (And.right (And.right (And.right (And.right (And.right (And.right (And.right (And.right (And.right (And.right (And.right (And.right (And.right (And.right (And.right (And.right (And.right (by assumption))))))))))))))))))))))))) | exact And.left (And.right (And.right (And.right (And.right (And.right (And.right (And.right (And.right (And.right (And.right (And.right (And.right (And.right (And.right (And.right (And.right (And.right (And.right (And.right (And.right (And.right (And.right (And.right (And.right (And.right (by assumption)))))))))))))))))))))))))) | exact And.left (And.right (And.right (And.right (And.right (And.right (And.right (And.right (And.right (And.right (And.right (And.right (And.right (And.right (And.right (And.right (And.right (And.right (And.right (And.right (And.right (And.right (And.right (And.right (And.right (And.right (And.right (by assumption))))))))))))))))))))))))))) | exact And.left (And.right (And.right (And.right (And.right (And.right (And.right (And.right (And.right (And.right (And.right (And.right (And.right (And.right (And.right (And.right (And.right (And.right (And.right (And.right (And.right (And.right (And.right (And.right (And.right (And.right (And.right (And.right (by assumption)))))))))))))))))))))))))))) | exact And.left (And.right (And.right (And.right (And.right (And.right (And.right (And.right (And.right (And.right (And.right (And.right (And.right (And.right (And.right (And.right (And.right (And.right (And.right (And.right (And.right (And.right (And.right (And.right (And.right (And.right (And.right (And.right (And.right (by assumption))))))))))))))))))))))))))))) | exact And.left (And.right (And.right (And.right (And.right (And.right (And.right (And.right (And.right (And.right (And.right (And.right (And.right (And.right (And.right (And.right (And.right (And.right (And.right (And.right (And.right (And.right (And.right (And.right (And.right (And.right (And.right (And.right (And.right (And.right (by assumption))))))))))))))))))))))))))))))) | fail "no")
  k_with "my k_ne" => (first | ((refine neN ?_; (try dsimp only); first | (refine Nat.ne_of_lt ?_; walk_at "my lt") | (refine Nat.ne_of_gt ?_; walk_at "my lt") | walk_at "my lt" | (refine Ne.symm ?_; walk_at "my lt") | omega)) | fail "no")
  k_with "my binds" => (first | (first | exact BindsTo.of_eq (binds := [(_, _)]) rfl | exact BindsTo.of_eq (binds := [(_, _), (_, _)]) rfl | exact BindsTo.of_eq (binds := [(_, _), (_, _), (_, _)]) rfl | exact BindsTo.of_eq (binds := [(_, _), (_, _), (_, _), (_, _)]) rfl | exact BindsTo.of_eq rfl) | fail "no")
  k_with "my call ref" => (first | ((k_here; k_dflt (refine call_cls (by k_asm) (by k_asm) (by k_asm) (by k_is) (by k_is) (by k_is) ?_; k_whole; intro wxzw wdzw whzw wFzw wNzw wl1w wl2w; (try k_lt wl1w); (try k_lt2 wl2w); (try k_sweep)); k_dflt (walk_at "my nest"))) | fail "no")
  k_with "my sub" => (first | (repeat (first | exact List.forall_mem_nil _ | refine List.forall_mem_cons.mpr ⟨by k_mem, ?_⟩)) | fail "no")
  trivial
noncomputable abbrev ent (P : Params) (k : String) (t : Tok) (v : Value) : DictEntry := ⟨PyData.keyHash P (Str.ofString k), .str (Str.ofString k) t, v⟩
noncomputable abbrev tup4 (pa : Addr) (wd : Str) (t : Tok) (led cov : Bool) : Obj := { cls := .type "tuple", data := .seq #[.ref pa, .str wd t, .bool led, .bool cov] }
noncomputable abbrev pathDict (P : Params) (t0 t1 t2 t3 t4 t5 t6 t7 t8 t9 t10 t11 t12 t13 t14 : Tok) (kd : Str) (tk : Tok) (ix : Value) (E1 E2 : Addr) (cov : Bool) (rw co : Value) : Obj :=
  dictOf [ent P "kind" t0 (.str kd tk), ent P "index" t1 ix, ent P "equals" t2 (.ref E1), ent P "equal_affinities" t3 (.ref E2), ent P "low" t4 .none, ent P "high" t5 .none, ent P "low_affinity" t6 .none, ent P "high_affinity" t7 .none,
    ent P "in_list" t8 .none, ent P "in_affinity" t9 .none, ent P "covering" t10 (.bool cov), ent P "descending" t11 (.bool false), ent P "is_single" t12 (.bool false), ent P "rows" t13 rw, ent P "cost" t14 co] 15
noncomputable abbrev indexDict (P : Params) (u0 u1 u2 u3 u4 u5 u6 : Tok) (nm : Str) (tn : Tok) (v1 v2 v3 v4 v5 v6 : Value) : Obj :=
  dictOf [ent P "name" u0 (.str nm tn), ent P "table" u1 v1, ent P "root" u2 v2, ent P "columns" u3 v3, ent P "unique" u4 v4, ent P "origin" u5 v5, ent P "sql" u6 v6] 7
/-- what the walk reads of a path: its word, whether it goes by an index, whether anything leads it, whether it covers -/
inductive PathAt (P : Params) (pa : Addr) : Str → Bool → Bool → Bool → List (Addr × Obj) → Prop
  | plain (dx : Addr) (t0 t1 t2 t3 t4 t5 t6 t7 t8 t9 t10 t11 t12 t13 t14 : Tok) (kd wd : Str) (tk : Tok) (E1 E2 : Addr) (rw co : Value) (n1 : Nat) (hk : kd = Str.ofString "scan" ∧ wd = Str.ofString "scan" ∨ (kd = Str.ofString "rowid" ∨ kd = Str.ofString "rowid_range") ∧ wd = Str.ofString "rowid") :
      PathAt P pa wd false false false [(pa, instObj 407 dx), (dx, pathDict P t0 t1 t2 t3 t4 t5 t6 t7 t8 t9 t10 t11 t12 t13 t14 kd tk .none E1 E2 false rw co), (E1, listOf #[] n1)]
  | index (dx : Addr) (t0 t1 t2 t3 t4 t5 t6 t7 t8 t9 t10 t11 t12 t13 t14 : Tok) (nm : Str) (tk : Tok) (ix E1 E2 : Addr) (led cov : Bool) (rw co : Value) (es : Array Value) (n1 : Nat) (di : Addr) (u0 u1 u2 u3 u4 u5 u6 : Tok) (tn : Tok) (v1 v2 v3 v4 v5 v6 : Value)
      (hn : nm = Str.ofString "Ab" ∨ nm = Str.ofString "other") (he : led = false ∧ es = #[] ∨ led = true ∧ ∃ x, es = #[.ref x]) :
      PathAt P pa (Txt.lower nm) true led cov [(pa, instObj 407 dx), (dx, pathDict P t0 t1 t2 t3 t4 t5 t6 t7 t8 t9 t10 t11 t12 t13 t14 (Str.ofString "index") tk (.ref ix) E1 E2 cov rw co), (E1, listOf es n1), (ix, instObj 470 di), (di, indexDict P u0 u1 u2 u3 u4 u5 u6 nm tn v1 v2 v3 v4 v5 v6)]
def SrcOk (a b : Int) : Prop := 0 ≤ a ∧ 0 ≤ b ∧ b < 2147483647
theorem mulOk_take (a x y : Int) : IntMulOk ([a, x.fmod 2147483647].getD (Int.toNat 1) 0) y := by
  show IntMulOk (x.fmod 2147483647) y
  have h1 := Int.fmod_nonneg_of_pos x (b := 2147483647) (by decide)
  have h2 := Int.fmod_lt_of_pos x (b := 2147483647) (by decide)
  exact .of_left (PySem.intBits_le_64 (by omega) (by omega))
section
local macro_rules | `(tactic| mul_fits) => `(tactic| exact mulOk_take _ _ _)

theorem src_ok_div {a b top : Int} (h : SrcOk a b) (ht : 0 < top) : SrcOk (a.fdiv top) b :=
  ⟨Int.fdiv_nonneg h.1 (by omega), h.2.1, h.2.2⟩
theorem src_ok_mix {a b x : Int} (h : SrcOk a b) : SrcOk a (x.fmod 2147483647) :=
  ⟨h.1, Int.fmod_nonneg_of_pos _ (by decide), Int.fmod_lt_of_pos _ (by decide)⟩

set_option maxHeartbeats 4000000 in
theorem take_con (w : World) (src : Addr) (a b : Int) (ta tb : Tok) (n : Nat) (top : Int) (tt : Tok) :
    Con w 509 1 8 [.ref src, .int top tt] [(src, listOf #[.int a ta, .int b tb] n)]
      (fun _ => SrcOk a b ∧ 0 < top ∧ top ≤ 12)
      (PUpd [(src, listOf #[.int a ta, .int b tb] n)] src (fun r o' new => new = [] ∧ ∃ d t a' ta' b' tb' n', r = .int d t ∧ 0 ≤ d ∧ d < top ∧ SrcOk a' b' ∧ o' = listOf #[.int a' ta', .int b' tb'] n')) := by
  intro loose mean mg mb dp un gd cn cs aa ccd cl outer A₀ base h₀ L m s Q E ⟨B, F, X, N, T, k, hd, hu⟩ ⟨ok, ht0, ht1⟩ hret
  refine wpAny_call ?_
  k_dflt (walk_at "my enter")
  k_steps
  all_goals refine hret _ _ _ _ (by assumption) (by assumption) (Kept.trans (by assumption) (Fr.keep (by assumption))) (fresh_of (by assumption) (by assumption)) ?_
  · exact ⟨_, [], ⟨rfl, _, _, _, _, _, _, _, rfl, Int.fmod_nonneg_of_pos _ ht0, Int.fmod_lt_of_pos _ ht0, src_ok_div ok ht0, rfl⟩, .head _, (fun q hq h => by cases hq with | head => exact absurd rfl h | tail _ hq => exact nomatch hq), (fun _ h => nomatch h), (fun _ h => nomatch h)⟩
  · exact ⟨_, [], ⟨rfl, _, _, _, _, _, _, _, rfl, Int.fmod_nonneg_of_pos _ ht0, Int.fmod_lt_of_pos _ ht0, src_ok_mix ok, rfl⟩, .head _, (fun q hq h => by cases hq with | head => exact absurd rfl h | tail _ hq => exact nomatch hq), (fun _ h => nomatch h), (fun _ h => nomatch h)⟩
end
theorem words2 : True := by
  k_with "my call ref" => (first | ((k_here; (with_reducible show wpAny _ _ (call (Value.ref 509) _) _ _ _); k_dflt (refine use_upd (take_con _ _ _ _ _ _ _ _ _) ⟨(by k_asm), (by k_asm), (by k_asm), (by k_asm), (by k_asm), (by first | exact rfl | assumption), (by ktr_room), (by ktr_units)⟩ (by walk_at "my sub") (by k_updF) ⟨(by assumption), (by decide), (by decide)⟩ ?_; k_whole); (rintro wvzw wozw wnewzw whzw wtkzw wFzw wNzw - - ⟨we1w, wdzw, wtzw, wazw, wtazw, wbzw, wtbzw, wnzw, we2w, whd0w, whd1w, whsrcw, we3w⟩); subst we1w; subst we2w; subst we3w; (try simp only [List.nil_append] at wNzw); (try k_sweep))) | fail "no")
  trivial
noncomputable abbrev tupOf (x : Int) (t : Tok) (r : Value) (n : Nat) : Obj := { cls := .type "tuple", data := .seq #[.int x t, r] n }
/-- the rows: a list of references, each to a tuple of a rowid and a record -/
def RowsAt (h : Heap) (vs : List Value) (xs : List Int) : Prop :=
  vs.length = xs.length ∧ ∀ (i : Nat) (x : Int), xs[i]? = some x → ∃ a t r n, vs[i]? = some (Value.ref a) ∧ h.get? a = some (tupOf x t r n)
noncomputable abbrev tabDict (P : Params) (t1 t2 t3 : Tok) (RL : Addr) (vp vg : Value) : Obj :=
  dictOf [⟨PyData.keyHash P (Str.ofString "rows"), .str (Str.ofString "rows") t1, .ref RL⟩, ⟨PyData.keyHash P (Str.ofString "place"), .str (Str.ofString "place") t2, vp⟩, ⟨PyData.keyHash P (Str.ofString "gone"), .str (Str.ofString "gone") t3, vg⟩] 3
noncomputable abbrev tab3 (P : Params) (x dx RL : Addr) (t1 t2 t3 : Tok) (vp vg : Value) (vs : List Value) (n : Nat) : List (Addr × Obj) := [(x, instObj 300 dx), (dx, tabDict P t1 t2 t3 RL vp vg), (RL, listOf vs.toArray n)]
theorem tab3_not_tuple {P : Params} {x dx RL : Addr} {t1 t2 t3 : Tok} {vp vg : Value} {vs : List Value} {n : Nat} : ∀ p ∈ tab3 P x dx RL t1 t2 t3 vp vg vs n, p.2.cls ≠ .type "tuple" := by
  intro p hp
  simp only [tab3, List.mem_cons, List.not_mem_nil, or_false] at hp
  rcases hp with rfl | rfl | rfl <;> simp
theorem tab3_ne {P : Params} {x dx RL L : Addr} {t1 t2 t3 : Tok} {vp vg : Value} {vs : List Value} {n : Nat} {h₀ h : Heap} (N : News h₀ L h (tab3 P x dx RL t1 t2 t3 vp vg vs n)) : @Ne Nat x dx ∧ @Ne Nat x RL ∧ @Ne Nat dx RL :=
  ⟨news_ne N (.head _) (.tail _ (.head _)) (by simp), news_ne N (.head _) (.tail _ (.tail _ (.head _))) (by simp), news_ne N (.tail _ (.head _)) (.tail _ (.tail _ (.head _))) (by simp)⟩
noncomputable def cntLt (xs : List Int) (r : Int) : Nat := (xs.filter (fun x => decide (x < r))).length
def Inc (xs : List Int) : Prop := xs.Pairwise (· < ·)

theorem RowsAt.keep {h h' : Heap} {vs : List Value} {xs : List Int} (R : RowsAt h vs xs) (k : ∀ b o, h.get? b = some o → h'.get? b = some o) : RowsAt h' vs xs :=
  ⟨R.1, fun i x e => let ⟨a, t, r, n, p, q⟩ := R.2 i x e; ⟨a, t, r, n, p, k _ _ q⟩⟩
/-- an object of a kind that the handed ones are not stands outside them -/
theorem off_sub {h₀ h : Heap} {L a : Addr} {sub : List (Addr × Obj)} {o : Obj} (N : News h₀ L h sub) (ha : h.get? a = some o) (hs : ∀ p ∈ sub, p.2.cls ≠ o.cls) : a ∉ sub.map (·.1) := fun hm => by
  obtain ⟨p, hp, rfl⟩ := List.mem_map.mp hm
  rw [(N p hp).1] at ha
  exact hs p hp (by rw [Option.some.inj ha])
theorem RowsAt.kept {h₀ h h' : Heap} {L : Addr} {sub : List (Addr × Obj)} {vs : List Value} {xs : List Int} (R : RowsAt h vs xs) (N : News h₀ L h sub) (K : Kept h h' sub) (hs : ∀ p ∈ sub, p.2.cls ≠ .type "tuple") : RowsAt h' vs xs :=
  ⟨R.1, fun i x e => let ⟨a, t, r, n, p, q⟩ := R.2 i x e; ⟨a, t, r, n, p, K _ _ q (off_sub N q hs)⟩⟩

section
variable {prog : Program} {w : World} {A : Around} {E : Value → Shared → Prop} {s : Shared} {h₀ : Heap} {L l : Addr} {m : Str → Option Value} {news : List (Addr × Obj)} {vs : List Value} {xs : List Int} {n : Nat} {Q : Value → Shared → Prop}
theorem rows_len (N : News h₀ L s.heap news) (hm : (l, listOf vs.toArray n) ∈ news) (R : RowsAt h₀ vs xs) (hb : xs.length ≤ 1000)
    (h : ∀ t tk, Q (.int (xs.length : Int) t) { s with toks := tk }) : wpAny (model prog w) A (call (.builtin "len") [.ref l]) Q E s := by
  have e : vs.toArray.size = xs.length := by rw [List.size_toArray, R.1]
  exact len_list (N.isList hm) (by rw [e]; omega) (by rw [e]; exact h _ _)
theorem rows_item {value slice : PySem.Expr} {k : Int} {u : Tok} (N : News h₀ L s.heap news) (hm : (l, listOf vs.toArray n) ∈ news) (R : RowsAt h₀ vs xs) (hb : xs.length ≤ 1000) (h0 : 0 ≤ k) (h1 : k < (xs.length : Int))
    (h : ∀ a t r n', h₀.get? a = some (tupOf (xs.getD k.toNat 0) t r n') → Q (.ref a) s)
    (hs : subscripted slice false (.ref l) (.int k u) = operate [.ref l, .int k u] (getItem (.ref l) (.int k u)) := by with_unfolding_all rfl) :
    wpAny (model prog w) A (subscriptTail value slice (.ref l) (.int k u)) Q E s := by
  have hk : k.toNat < xs.length := by omega
  obtain ⟨a, t, r, n', p, q⟩ := R.2 k.toNat _ (List.getElem?_eq_getElem hk)
  have hg : xs.getD k.toNat 0 = xs[k.toNat] := by simp [List.getD, List.getElem?_eq_getElem hk]
  exact tail_any (N.isList hm).typeIs slot_list_getitem.lookup (wpAny_getItem_list (N.isList hm) h0 (by omega) (by simpa using p) (h a t r n' (by rw [hg]; exact q))) hs
theorem tup_zero {value slice : PySem.Expr} {a : Addr} {x : Int} {t : Tok} {r : Value} {n' : Nat} {u : Tok} (F : Fr h₀ L s.heap m) (ha : h₀.get? a = some (tupOf x t r n')) (h : Q (.int x t) s)
    (hs : subscripted slice false (.ref a) (.int 0 u) = operate [.ref a, .int 0 u] (getItem (.ref a) (.int 0 u)) := by with_unfolding_all rfl) :
    wpAny (model prog w) A (subscriptTail value slice (.ref a) (.int 0 u)) Q E s :=
  item_tupleT (l := [.int x t, r]) (j := 0) (x := .int x t) ⟨_, F.keep _ _ ha, rfl, _, rfl⟩ (by decide) (by decide) (by rfl) rfl h hs
theorem tup_one {value slice : PySem.Expr} {a : Addr} {x : Int} {t : Tok} {r : Value} {n' : Nat} {u : Tok} (F : Fr h₀ L s.heap m) (ha : h₀.get? a = some (tupOf x t r n')) (h : Q r s)
    (hs : subscripted slice false (.ref a) (.int 1 u) = operate [.ref a, .int 1 u] (getItem (.ref a) (.int 1 u)) := by with_unfolding_all rfl) :
    wpAny (model prog w) A (subscriptTail value slice (.ref a) (.int 1 u)) Q E s :=
  item_tupleT (l := [.int x t, r]) (j := 1) (x := r) ⟨_, F.keep _ _ ha, rfl, _, rfl⟩ (by decide) (by decide) (by rfl) rfl h hs
end
local macro_rules | `(tactic| walk_at "call builtin:len") => `(tactic| k_extra "my call builtin:len")
local macro_rules | `(tactic| walk_at "subscriptTail") => `(tactic| (k_here; (with_reducible show wpAny _ _ (subscriptTail _ _ (Value.ref _) (Value.int _ _)) _ _ _); (with_reducible refine' rows_item ?k1 ?k2 ?k3 ?k4 ?k5 ?k6 ?_ ?k7); (case k1 => k_asm); (case k2 => k_dflt k_mem); (case k3 => assumption); (case k4 => omega); (case k5 => walk_at "my arith"); (case k6 => walk_at "my arith"); (case k7 => with_unfolding_all rfl); k_whole; intro a' t' r' n' hT'))
local macro_rules | `(tactic| walk_at "subscriptTail") => `(tactic| (k_here; (with_reducible show wpAny _ _ (subscriptTail _ _ (Value.ref _) (Value.int 1 _)) _ _ _); (with_reducible refine' tup_one ?F ?a ?_ ?k7); (case F => k_asm); (case a => assumption); (case k7 => with_unfolding_all rfl); k_whole))
local macro_rules | `(tactic| walk_at "subscriptTail") => `(tactic| (k_here; (with_reducible show wpAny _ _ (subscriptTail _ _ (Value.ref _) (Value.int 0 _)) _ _ _); (with_reducible refine' tup_zero ?F ?a ?_ ?k7); (case F => k_asm); (case a => assumption); (case k7 => with_unfolding_all rfl); k_whole))
theorem words3 : True := by
  k_with "my rows" => (first | (exact RowsAt.keep (by assumption) (Fr.keep (by k_asm))) | fail "no")
  k_with "my call builtin:len" => (first | ((k_here; (with_reducible show wpAny _ _ (call (Value.builtin "len") [Value.ref _]) _ _ _); k_dflt (refine rows_len (by k_asm) (by k_mem) (by assumption) (by omega) ?_; k_whole; intro wtzw wtkzw))) | fail "no")
  k_with "my arith" => (first | (first | omega | ((simp (disch := omega) only [Int.fdiv_eq_ediv_of_nonneg, Int.fmod_eq_emod_of_nonneg]); omega)) | fail "no")
  trivial

theorem cntLt_le (xs : List Int) (r : Int) : cntLt xs r ≤ xs.length := List.length_filter_le _ _
theorem cntLt_lt {xs : List Int} {r : Int} (inc : Inc xs) : ∀ {i : Nat}, i < xs.length → (xs.getD i 0 < r ↔ i < cntLt xs r) := by
  induction xs with
  | nil => intro i h; exact absurd h (Nat.not_lt_zero _)
  | cons y ys ih =>
    obtain ⟨hy, hys⟩ := List.pairwise_cons.mp inc
    intro i h
    unfold cntLt
    rw [List.filter_cons]
    by_cases hr : y < r
    · rw [if_pos (by simpa using hr)]
      cases i with
      | zero => simpa using hr
      | succ i =>
        have := ih hys (i := i) (by simpa using h)
        simp only [List.getD_cons_succ, List.length_cons, Nat.succ_lt_succ_iff]
        exact this
    · rw [if_neg (by simpa using hr)]
      have e : ys.filter (fun x => decide (x < r)) = [] := by
        rw [List.filter_eq_nil_iff]
        intro z hz
        have := hy z hz
        simp only [decide_eq_true_eq]
        omega
      rw [e]
      constructor
      · intro hlt
        exfalso
        cases i with
        | zero => exact hr (by simpa using hlt)
        | succ i =>
          have hi : i < ys.length := by simpa using h
          have hz := hy (ys.getD i 0) (by simp [List.getD, List.getElem?_eq_getElem hi])
          simp only [List.getD_cons_succ] at hlt
          omega
      · intro hlt; exact absurd hlt (Nat.not_lt_zero _)

theorem place_start (xs : List Int) (r : Int) : (0 : Int) ≤ 0 ∧ (0 : Int) ≤ (cntLt xs r : Int) ∧ (cntLt xs r : Int) ≤ (xs.length : Int) ∧ (xs.length : Int) ≤ (xs.length : Int) :=
  ⟨Int.le_refl _, by omega, by have := cntLt_le xs r; omega, Int.le_refl _⟩
theorem int_ret {Q : Value → Shared → Prop} {a b : Int} {t : Tok} {s : Shared} (e : a = b) (h : Q (.int b t) s) : Q (.int a t) s := e ▸ h
theorem place_up {xs : List Int} {r l h : Int} (inc : Inc xs) (h0 : 0 ≤ l) (_h1 : l ≤ (cntLt xs r : Int)) (h2 : (cntLt xs r : Int) ≤ h) (h3 : h ≤ (xs.length : Int)) (hlt : l < h) (hx : xs.getD ((l + h).fdiv 2).toNat 0 < r) :
    0 ≤ (l + h).fdiv 2 + 1 ∧ (l + h).fdiv 2 + 1 ≤ (cntLt xs r : Int) ∧ (cntLt xs r : Int) ≤ h ∧ h ≤ (xs.length : Int) := by
  rw [Int.fdiv_eq_ediv_of_nonneg _ (by decide)] at *
  have := (cntLt_lt inc (r := r) (i := ((l + h) / 2).toNat) (by omega)).mp hx
  omega
theorem place_dn {xs : List Int} {r l h : Int} (inc : Inc xs) (h0 : 0 ≤ l) (h1 : l ≤ (cntLt xs r : Int)) (_h2 : (cntLt xs r : Int) ≤ h) (h3 : h ≤ (xs.length : Int)) (hlt : l < h) (hx : ¬ xs.getD ((l + h).fdiv 2).toNat 0 < r) :
    0 ≤ l ∧ l ≤ (cntLt xs r : Int) ∧ (cntLt xs r : Int) ≤ (l + h).fdiv 2 ∧ (l + h).fdiv 2 ≤ (xs.length : Int) := by
  rw [Int.fdiv_eq_ediv_of_nonneg _ (by decide)] at *
  have := mt (cntLt_lt inc (r := r) (i := ((l + h) / 2).toNat) (by omega)).mpr hx
  omega
theorem place_less_up {l h : Int} (hlt : l < h) : (h - ((l + h).fdiv 2 + 1)).toNat < (h - l).toNat := by
  rw [Int.fdiv_eq_ediv_of_nonneg _ (by decide)]; omega
theorem place_less_dn {l h : Int} (hlt : l < h) : ((l + h).fdiv 2 - l).toNat < (h - l).toNat := by
  rw [Int.fdiv_eq_ediv_of_nonneg _ (by decide)]; omega

set_option maxHeartbeats 4000000 in
theorem place_con (w : World) (x dx RL : Addr) (t1 t2 t3 : Tok) (vp vg : Value) (vs : List Value) (n : Nat) (xs : List Int) (r : Int) (tr : Tok) :
    Con w 178 1 8 [.ref x, .int r tr] (tab3 w.params x dx RL t1 t2 t3 vp vg vs n)
      (fun h => RowsAt h vs xs ∧ Inc xs ∧ xs.length ≤ 1000)
      (PNew (tab3 w.params x dx RL t1 t2 t3 vp vg vs n) (fun v new => new = [] ∧ ∃ t, v = .int (cntLt xs r) t)) := by
  intro loose mean mg mb dp un gd cn cs aa ccd cl outer A₀ base h₀ L m s Q E ⟨B, F, X, N, T, k, hd, hu⟩ ⟨R, inc, hlen⟩ hret
  refine wpAny_call ?_
  k_dflt (walk_at "my enter")
  rename Kept _ _ _ => KG
  have Rg := R.kept N KG tab3_not_tuple
  have hcl := cntLt_le xs r
  k_with "state" => first | exact place_start _ _ | exact place_up inc (by assumption) (by assumption) (by assumption) (by assumption) (by assumption) (by assumption) | exact place_dn inc (by assumption) (by assumption) (by assumption) (by assumption) (by assumption) (by assumption)
  k_with "measure" => first | exact place_less_up (by assumption) | exact place_less_dn (by assumption)
  k_with "exec While Compare cons nil" => k_while (fun _ low high => 0 ≤ low ∧ low ≤ (cntLt xs r : Int) ∧ (cntLt xs r : Int) ≤ high ∧ high ≤ (xs.length : Int)) (fun _ low high => (high - low).toNat) "low" "high"
  k_steps
  refine int_ret (b := (cntLt xs r : Int)) (by omega) (hret _ _ _ _ (by assumption) (by assumption) (Kept.trans (by assumption) (Fr.keep (by assumption))) (fresh_of (by assumption) (by assumption)) ⟨[], ⟨rfl, _, rfl⟩, (fun _ h => h), (fun _ h => nomatch h), (fun _ h => nomatch h)⟩)
  k_with_none
theorem words5 : True := by
  k_with "my lt" => (first | (with_reducible first | exact And.left (by assumption) | exact (by assumption) | exact And.left (And.right (by assumption)) | exact (And.right (by assumption)) | exact And.left (And.right (And.right (by assumption))) | exact (And.right (And.right (by assumption))) | exact And.left (And.right (And.right (And.right (by assumption)))) | exact (And.right (And.right (And.right (by assumption)))) | exact And.left (And.right (And.right (And.right (And.right (by assumption))))) | exact (And.right (And.right (And.right (And.right (by assumption))))) | exact And.left (And.right (And.right (And.right (And.right (And.right (by assumption)))))) | exact (And.right (And.right (And.right (And.right (And.right (by assumption)))))) | exact And.left (And.right (And.right (And.right (And.right (And.right (And.right (by assumption))))))) | exact (And.right (And.right (And.right (And.right (And.right (And.right (by assumption))))))) | exact And.left (And.right (And.right (And.right (And.right (And.right (And.right (And.right (by assumption)))))))) | exact (And.right (And.right (And.right (And.right (And.right (And.right (And.right (by assumption)))))))) | exact And.left (And.right (And.right (And.right (And.right (And.right (And.right (And.right (And.right (by assumption))))))))) | exact (And.right (And.right (And.right (And.right (And.right (And.right (And.right (And.right (by assumption))))))))) | exact And.left (And.right (And.right (And.right (And.right (And.right (And.right (And.right (And.right (And.right (by assumption)))))))))) | exact (And.right (And.right (And.right (And.right (And.right (And.right (And.right (And.right (And.right (by assumption)))))))))) | exact And.left (And.right (And.right (And.right (And.right (And.right (And.right (And.right (And.right (And.right (And.right (by assumption))))))))))) | exact (And.right (And.right (And.right (And.right (And.right (And.right (And.right (And.right (And.right (And.right (by assumption))))))))))) | exact And.left (And.right (And.right (And.right (And.right (And.right (And.right (And.right (And.right (And.right (And.right (And.right (by assumption)))))))))))) | exact (And.right (And.right (And.right (And.right (And.right (And.right (And.right (And.right (And.right (And.right (And.right (by assumption)))))))))))) | exact And.left (And.right (And.right (And.right (And.right (And.right (And.right (And.right (And.right (And.right (And.right (And.right (And.right (by assumption))))))))))))) | exact (And.right (And.right (And.right (And.right (And.right (And.right (And.right (And.right (And.right (And.right (And.right (And.right (by assumption))))))))))))) | exact And.left (And.right (And.right (And.right (And.right (And.right (And.right (And.right (And.right (And.right (And.right (And.right (And.right (And.right (by assumption)))))))))))))) | exact (And.right (And.right (And.right (And.right (And.right (And.right (And.right (And.right (And.right (And.right (And.right (And.right (And.right (by assumption)))))))))))))) | exact And.left (And.right (And.right (And.right (And.right (And.right (And.right (And.right (And.right (And.right (And.right (And.right (And.right (And.right (And.right (by assumption))))))))))))))) | exact (And.right (And.right (And.right (And.right (And.right (And.right (And.right (And.right (And.right (And.right (And.right (And.right (And.right (And.right (by assumption))))))))))))))) | exact And.left (And.right (And.right (And.right (And.right (And.right (And.right (And.right (And.right (And.right (And.right (And.right (And.right (And.right (And.right (And.right (by assumption)))))))))))))))) | exact (And.right (And.right (And.right (And.right (And.right (And.right (And.right (And.right (And.right (And.right (And.right (And.right (And.right (And.right (And.right (by assumption)))))))))))))))) | exact And.left (And.right (And.right (And.right (And.right (And.right (And.right (And.right (And.right (And.right (And.right (And.right (And.right (And.right (And.right (And.right (And.right (by assumption))))))))))))))))) | exact (And.right (And.right (And.right (And.right (And.right (And.right (And.right (And.right (And.right (And.right (And.right (And.right (And.right (And.right (And.right (And.right (by assumption))))))))))))))))) | exact And.left (And.right (And.right (And.right (And.right (And.right (And.right (And.right (And.right (And.right (And.right (And.right (And.right (And.right (And.right (And.right (And.right (And.right (by assumption)))))))))))))))))) | exact (And.right (And.right (And.right (And.right (And.right (And.right (And.right (And.right (And.right (And.right (And.right (And.right (And.right (And.right (And.right (And.right (And.right (by assumption)))))))))))))))))) | exact And.left (And.right (And.right (And.right (And.right (And.right (And.right (And.right (And.right (And.right (And.right (And.right (And.right (And.right (And.right (And.right (And.right (And.right (And.right (by assumption))))))))))))))))))) | exact (And.right (And.right (And.right (And.right (And.right (And.right (And.right (And.right (And.right (And.right (And.right (And.right (And.right (And.right (And.right (And.right (And.right (And.right (by assumption))))))))))))))))))) | exact And.left (And.right (And.right (And.right (And.right (And.right (And.right (And.right (And.right (And.right (And.right (And.right (And.right (And.right (And.right (And.right (And.right (And.right (And.right (And.right (by assumption)))))))))))))))))))) | exact (And.right (And.right (And.right (And.right (And.right (And.right (And.right (And.right (And.right (And.right (And.right (And.right (And.right (And.right (And.right (And.right (And.right (And.right (And.right (by assumption)))))))))))))))))))) | exact And.left (And.right (And.right (And.right (And.right (And.right (And.right (And.right (And.right (And.right (And.right (And.right (And.right (And.right (And.right (And.right (And.right (And.right (And.right (And.right (And.right (by assumption))))))))))))))))))))) | exact And.left (And.right (And.right (And.right (And.right (And.right (And.right (And.right (And.right (And.right (And.right (And.right (And.right (And.right (And.right (And.right (And.right (And.right (And.right (And.right (And.right (And.right (by assumption)))))))))))))))))))))) | exact And.left (And.right (And.right (And.right (And.right (And.right (And.right (And.right (And.right (And.right (And.right (And.right (And.right (And.right (And.right (And.right (And.right (And.right (And.right (And.right (And.right (And.right (And.right (by assumption))))))))))))))))))))))) | exact And.left (And.right (And.right (And.right (And.right (And.right (And.right (And.right (And.right (And.right (And.right (And.right (And.right (And.right (And.right (And.right (And.right (And.right (And.right (And.right (And.right (And.right (And.right (And.right (by assumption)))))))))))))))))))))))) | exact And.left (And.right (And.right (And.right (And.right (And.right (And.right (And.right (And.right (And.right (And.right (And.right (And.right (And.right (And.right (And.right (And.right (And.right (And.right (And.right (And.right (And.right (And.right (And.right (And.right (by assumption))))))))))))))))))))))))) | exact And.left (And.right (And.right (And.right (And.right (And.right (And.right (And.right (And.right (And.right (And.right (And.right (And.right (And.right (And.right (And.right (And.right (And.right (And.right (And.right (And.right (And.right (And.right (And.right (And.right (And.right (by assumption)))))))))))))))))))))))))) | exact And.left (And.right (And.right (And.right (And.right (And.right (And.right (And.right (And.right (And.right (And.right (And.right (And.right (And.right (And.right (And.right (And.right (And.right (And.right (And.right (And.right (And.right (And.right (And.right (And.right (And.right (And.right (by assumption))))))))))))))))))))))))))) | exact And.left (And.right (And.right (And.right (And.right (And.right (And.right (And.right (And.right (And.right (And.right (And.right (And.right (And.right (And.right (And.right (And.right (And.right (And.right (And.right (And.right (And.right (And.right (And.right (And.right (And.right (And.right (And.right (by assumption)))))))))))))))))))))))))))) | exact And.left (And.right (And.right (And.right (And.right (And.right (And.right (And.right (And.right (And.right (And.right (And.right (And.right (And.right (And.right (And.right (And.right (And.right (And.right (And.right (And.right (And.right (And.right (And.right (And.right (And.right (And.right (And.right (And.right (by assumption))))))))))))))))))))))))))))) | exact And.left (And.right (And.right (And.right (And.right (And.right (And.right (And.right (And.right (And.right (And.right (And.right (And.right (And.right (And.right (And.right (And.right (And.right (And.right (And.right (And.right (And.right (And.right (And.right (And.right (And.right (And.right (And.right (And.right (And.right (by assumption))))))))))))))))))))))))))))))) | fail "no")
  k_with "my k_ne" => (first | ((refine neN ?_; (try dsimp only); first | (refine Nat.ne_of_lt ?_; walk_at "my lt") | (refine Nat.ne_of_gt ?_; walk_at "my lt") | walk_at "my lt" | (refine Ne.symm ?_; walk_at "my lt") | omega)) | fail "no")
  k_with "my binds" => (first | (first | exact BindsTo.of_eq (binds := [(_, _)]) rfl | exact BindsTo.of_eq (binds := [(_, _), (_, _)]) rfl | exact BindsTo.of_eq (binds := [(_, _), (_, _), (_, _)]) rfl | exact BindsTo.of_eq (binds := [(_, _), (_, _), (_, _), (_, _)]) rfl | exact BindsTo.of_eq rfl) | fail "no")
  k_with "my call ref" => (first | ((k_here; k_dflt (refine call_cls (by k_asm) (by k_asm) (by k_asm) (by k_is) (by k_is) (by k_is) ?_; k_whole; intro wxzw wdzw whzw wFzw wNzw wl1w wl2w; (try k_lt wl1w); (try k_lt2 wl2w); (try k_sweep)); k_dflt (walk_at "my nest"))) | fail "no")
  k_with "my sub" => (first | (repeat (first | exact List.forall_mem_nil _ | refine List.forall_mem_cons.mpr ⟨by k_mem, ?_⟩)) | fail "no")
  k_with "my call ref" => (first | ((k_here; (with_reducible show wpAny _ _ (call (Value.ref 509) _) _ _ _); k_dflt (refine use_upd (take_con _ _ _ _ _ _ _ _ _) ⟨(by k_asm), (by k_asm), (by k_asm), (by k_asm), (by k_asm), (by first | exact rfl | assumption), (by ktr_room), (by ktr_units)⟩ (by walk_at "my sub") (by k_updF) ⟨(by assumption), (by decide), (by decide)⟩ ?_; k_whole); (rintro wvzw wozw wnewzw whzw wtkzw wFzw wNzw - - ⟨we1w, wdzw, wtzw, wazw, wtazw, wbzw, wtbzw, wnzw, we2w, whd0w, whd1w, whsrcw, we3w⟩); subst we1w; subst we2w; subst we3w; (try simp only [List.nil_append] at wNzw); (try k_sweep))) | fail "no")
  k_with "my rows" => (first | (exact RowsAt.keep (by assumption) (Fr.keep (by k_asm))) | fail "no")
  k_with "my call builtin:len" => (first | ((k_here; (with_reducible show wpAny _ _ (call (Value.builtin "len") [Value.ref _]) _ _ _); k_dflt (refine rows_len (by k_asm) (by k_mem) (by assumption) (by omega) ?_; k_whole; intro wtzw wtkzw))) | fail "no")
  k_with "my arith" => (first | (first | omega | ((simp (disch := omega) only [Int.fdiv_eq_ediv_of_nonneg, Int.fmod_eq_emod_of_nonneg]); omega)) | fail "no")
  k_with "my call ref" => (first | ((k_here; (with_reducible show wpAny _ _ (call (Value.ref 178) _) _ _ _); k_dflt (refine use_new (place_con _ _ _ _ _ _ _ _ _ _ _ _ _ _) ⟨(by k_asm), (by k_asm), (by k_asm), (by k_asm), (by k_asm), (by first | exact rfl | assumption), (by ktr_room), (by ktr_units)⟩ (by walk_at "my sub") ⟨(by walk_at "my rows"), (by assumption), (by assumption)⟩ ?_; k_whole); (rintro wvzw wnewzw whzw wtkzw wFzw wNzw - - ⟨we1w, wtzw, we2w⟩); subst we1w; subst we2w; (try simp only [List.nil_append] at wNzw); (try k_sweep))) | fail "no")
  trivial
theorem words4 : True := by
  k_with "my call ref" => (first | ((k_here; (with_reducible show wpAny _ _ (call (Value.ref 178) _) _ _ _); k_dflt (refine use_new (place_con _ _ _ _ _ _ _ _ _ _ _ _ _ _) ⟨(by k_asm), (by k_asm), (by k_asm), (by k_asm), (by k_asm), (by first | exact rfl | assumption), (by ktr_room), (by ktr_units)⟩ (by walk_at "my sub") ⟨(by walk_at "my rows"), (by assumption), (by assumption)⟩ ?_; k_whole); (rintro wvzw wnewzw whzw wtkzw wFzw wNzw - - ⟨we1w, wtzw, we2w⟩); subst we1w; subst we2w; (try simp only [List.nil_append] at wNzw); (try k_sweep))) | fail "no")
  trivial
theorem bool_ret {Q : Value → Shared → Prop} {a b : Bool} {s : Shared} (e : a = b) (h : Q (.bool b) s) : Q (.bool a) s := e ▸ h
set_option maxHeartbeats 4000000 in
theorem valid_con (w : World) (x dx RL : Addr) (t1 t2 t3 : Tok) (p : Int) (tp : Tok) (vs : List Value) (n : Nat) (xs : List Int) :
    Con w 262 1 8 [.ref x] (tab3 w.params x dx RL t1 t2 t3 (.int p tp) .none vs n)
      (fun h => RowsAt h vs xs ∧ xs.length ≤ 1000)
      (PNew (tab3 w.params x dx RL t1 t2 t3 (.int p tp) .none vs n) (fun v new => new = [] ∧ v = .bool (decide (0 ≤ p ∧ p < (xs.length : Int))))) := by
  intro loose mean mg mb dp un gd cn cs aa ccd cl outer A₀ base h₀ L m s Q E ⟨B, F, X, N, T, k, hd, hu⟩ ⟨R, hlen⟩ hret
  refine wpAny_call ?_
  k_dflt (walk_at "my enter")
  rename Kept _ _ _ => KG
  have Rg := R.kept N KG tab3_not_tuple
  k_steps
  all_goals (refine bool_ret (b := decide (0 ≤ p ∧ p < (xs.length : Int))) ?_ (hret _ _ _ _ (by assumption) (by assumption) (Kept.trans (by assumption) (Fr.keep (by assumption))) (fresh_of (by assumption) (by assumption)) ⟨[], ⟨rfl, rfl⟩, (fun _ h => h), (fun _ h => nomatch h), (fun _ h => nomatch h)⟩))
  · exact decide_eq_decide.mpr (by omega)
  · exact decide_eq_decide.mpr (by omega)
theorem words6 : True := by
  k_with "my call ref" => (first | ((k_here; (with_reducible show wpAny _ _ (call (Value.ref 262) _) _ _ _); k_dflt (refine use_new (valid_con _ _ _ _ _ _ _ _ _ _ _ _) ⟨(by k_asm), (by k_asm), (by k_asm), (by k_asm), (by k_asm), (by first | exact rfl | assumption), (by ktr_room), (by ktr_units)⟩ (by walk_at "my sub") ⟨(by walk_at "my rows"), (by assumption)⟩ ?_; k_whole); (rintro wvzw wnewzw whzw wtkzw wFzw wNzw - - ⟨we1w, we2w⟩); subst we1w; subst we2w; (try simp only [List.nil_append] at wNzw); (try k_sweep))) | fail "no")
  trivial
theorem tab3_upd {P : Params} {x dx RL : Addr} {t1 t2 t3 : Tok} {vp vg vp' vg' : Value} {vs : List Value} {n : Nat} : ∀ q ∈ tab3 P x dx RL t1 t2 t3 vp vg vs n, q.1 ≠ dx → q ∈ tab3 P x dx RL t1 t2 t3 vp' vg' vs n := by
  intro q hq hne
  simp only [tab3, List.mem_cons, List.not_mem_nil, or_false] at hq ⊢
  rcases hq with rfl | rfl | rfl
  · exact .inl rfl
  · exact absurd rfl hne
  · exact .inr (.inr rfl)
theorem tab3_dx {P : Params} {x dx RL : Addr} {t1 t2 t3 : Tok} {vp vg : Value} {vs : List Value} {n : Nat} : (dx, tabDict P t1 t2 t3 RL vp vg) ∈ tab3 P x dx RL t1 t2 t3 vp vg vs n := .tail _ (.head _)

set_option maxHeartbeats 4000000 in
theorem stand_con (w : World) (x dx RL : Addr) (t1 t2 t3 : Tok) (vp vg : Value) (p : Int) (tp : Tok) (vs : List Value) (n : Nat) (xs : List Int) :
    Con w 192 2 16 [.ref x, .int p tp] (tab3 w.params x dx RL t1 t2 t3 vp vg vs n)
      (fun h => RowsAt h vs xs ∧ xs.length ≤ 1000)
      (PUpd (tab3 w.params x dx RL t1 t2 t3 vp vg vs n) dx (fun v o' new => new = [] ∧ v = .bool (decide (0 ≤ p ∧ p < (xs.length : Int))) ∧ ∃ tp', o' = tabDict w.params t1 t2 t3 RL (.int p tp') .none)) := by
  intro loose mean mg mb dp un gd cn cs aa ccd cl outer A₀ base h₀ L m s Q E ⟨B, F, X, N, T, k, hd, hu⟩ ⟨R, hlen⟩ hret
  refine wpAny_call ?_
  k_dflt (walk_at "my enter")
  rename Kept _ _ _ => KG
  have Rg := R.kept N KG tab3_not_tuple
  have hne := tab3_ne N
  k_steps
  exact (hret _ _ _ _ (by assumption) (by assumption) (Kept.trans (by assumption) (Fr.keep (by assumption))) (fresh_of (by assumption) (by assumption)) ⟨_, [], ⟨rfl, rfl, _, rfl⟩, tab3_dx, tab3_upd, (fun _ h => nomatch h), (fun _ h => nomatch h)⟩)
theorem words7 : True := by
  k_with "my tab post" => (first | (((rintro wvzw wozw wnewzw whzw wtkzw wFzw wNzw - - ⟨we1w, we2w, wtpzw, we3w⟩); subst we1w; subst we2w; subst we3w; (try simp only [List.nil_append] at wNzw); (try k_sweep))) | fail "no")
  k_with "my call ref" => (first | ((k_here; (with_reducible show wpAny _ _ (call (Value.ref 192) _) _ _ _); k_dflt (refine use_upd (stand_con _ _ _ _ _ _ _ _ _ _ _ _ _ _) ⟨(by k_asm), (by k_asm), (by k_asm), (by k_asm), (by k_asm), (by first | exact rfl | assumption), (by ktr_room), (by ktr_units)⟩ (by walk_at "my sub") (by k_updF) ⟨(by walk_at "my rows"), (by assumption)⟩ ?_; k_whole); walk_at "my tab post")) | fail "no")
  trivial

set_option maxHeartbeats 4000000 in
theorem seek_ge_con (w : World) (x dx RL : Addr) (t1 t2 t3 : Tok) (vp vg : Value) (r : Int) (tr : Tok) (vs : List Value) (n : Nat) (xs : List Int) :
    Con w 234 3 24 [.ref x, .int r tr] (tab3 w.params x dx RL t1 t2 t3 vp vg vs n)
      (fun h => RowsAt h vs xs ∧ Inc xs ∧ xs.length ≤ 1000)
      (PUpd (tab3 w.params x dx RL t1 t2 t3 vp vg vs n) dx (fun v o' new => new = [] ∧ v = .bool (decide (0 ≤ ((cntLt xs r : Int) : Int) ∧ ((cntLt xs r : Int) : Int) < (xs.length : Int))) ∧ ∃ tp', o' = tabDict w.params t1 t2 t3 RL (Value.int ((cntLt xs r : Int)) tp') .none)) := by
  intro loose mean mg mb dp un gd cn cs aa ccd cl outer A₀ base h₀ L m s Q E ⟨B, F, X, N, T, k, hd, hu⟩ ⟨R, inc, hlen⟩ hret
  refine wpAny_call ?_
  k_dflt (walk_at "my enter")
  rename Kept _ _ _ => KG
  have Rg := R.kept N KG tab3_not_tuple
  have hne := tab3_ne N
  k_steps
  exact (hret _ _ _ _ (by assumption) (by assumption) (Kept.trans (by assumption) (Fr.keep (by assumption))) (fresh_of (by assumption) (by assumption)) ⟨_, [], ⟨rfl, rfl, _, rfl⟩, tab3_dx, tab3_upd, (fun _ h => nomatch h), (fun _ h => nomatch h)⟩)
theorem words8 : True := by
  k_with "my call ref" => (first | ((k_here; (with_reducible show wpAny _ _ (call (Value.ref 234) _) _ _ _); k_dflt (refine use_upd (seek_ge_con _ _ _ _ _ _ _ _ _ _ _ _ _ _) ⟨(by k_asm), (by k_asm), (by k_asm), (by k_asm), (by k_asm), (by first | exact rfl | assumption), (by ktr_room), (by ktr_units)⟩ (by walk_at "my sub") (by k_updF) ⟨(by walk_at "my rows"), (by assumption), (by assumption)⟩ ?_; k_whole); walk_at "my tab post")) | fail "no")
  trivial

set_option maxHeartbeats 4000000 in
theorem seek_gt_con (w : World) (x dx RL : Addr) (t1 t2 t3 : Tok) (vp vg : Value) (r : Int) (tr : Tok) (vs : List Value) (n : Nat) (xs : List Int) :
    Con w 241 3 24 [.ref x, .int r tr] (tab3 w.params x dx RL t1 t2 t3 vp vg vs n)
      (fun h => RowsAt h vs xs ∧ Inc xs ∧ xs.length ≤ 1000)
      (PUpd (tab3 w.params x dx RL t1 t2 t3 vp vg vs n) dx (fun v o' new => new = [] ∧ v = .bool (decide (0 ≤ ((cntLt xs (r + 1) : Int) : Int) ∧ ((cntLt xs (r + 1) : Int) : Int) < (xs.length : Int))) ∧ ∃ tp', o' = tabDict w.params t1 t2 t3 RL (Value.int ((cntLt xs (r + 1) : Int)) tp') .none)) := by
  intro loose mean mg mb dp un gd cn cs aa ccd cl outer A₀ base h₀ L m s Q E ⟨B, F, X, N, T, k, hd, hu⟩ ⟨R, inc, hlen⟩ hret
  refine wpAny_call ?_
  k_dflt (walk_at "my enter")
  rename Kept _ _ _ => KG
  have Rg := R.kept N KG tab3_not_tuple
  have hne := tab3_ne N
  k_steps
  exact (hret _ _ _ _ (by assumption) (by assumption) (Kept.trans (by assumption) (Fr.keep (by assumption))) (fresh_of (by assumption) (by assumption)) ⟨_, [], ⟨rfl, rfl, _, rfl⟩, tab3_dx, tab3_upd, (fun _ h => nomatch h), (fun _ h => nomatch h)⟩)
theorem words9 : True := by
  k_with "my call ref" => (first | ((k_here; (with_reducible show wpAny _ _ (call (Value.ref 241) _) _ _ _); k_dflt (refine use_upd (seek_gt_con _ _ _ _ _ _ _ _ _ _ _ _ _ _) ⟨(by k_asm), (by k_asm), (by k_asm), (by k_asm), (by k_asm), (by first | exact rfl | assumption), (by ktr_room), (by ktr_units)⟩ (by walk_at "my sub") (by k_updF) ⟨(by walk_at "my rows"), (by assumption), (by assumption)⟩ ?_; k_whole); walk_at "my tab post")) | fail "no")
  trivial

set_option maxHeartbeats 4000000 in
theorem seek_le_con (w : World) (x dx RL : Addr) (t1 t2 t3 : Tok) (vp vg : Value) (r : Int) (tr : Tok) (vs : List Value) (n : Nat) (xs : List Int) :
    Con w 248 3 24 [.ref x, .int r tr] (tab3 w.params x dx RL t1 t2 t3 vp vg vs n)
      (fun h => RowsAt h vs xs ∧ Inc xs ∧ xs.length ≤ 1000)
      (PUpd (tab3 w.params x dx RL t1 t2 t3 vp vg vs n) dx (fun v o' new => new = [] ∧ v = .bool (decide (0 ≤ ((cntLt xs (r + 1) : Int) - 1 : Int) ∧ ((cntLt xs (r + 1) : Int) - 1 : Int) < (xs.length : Int))) ∧ ∃ tp', o' = tabDict w.params t1 t2 t3 RL (Value.int ((cntLt xs (r + 1) : Int) - 1) tp') .none)) := by
  intro loose mean mg mb dp un gd cn cs aa ccd cl outer A₀ base h₀ L m s Q E ⟨B, F, X, N, T, k, hd, hu⟩ ⟨R, inc, hlen⟩ hret
  refine wpAny_call ?_
  k_dflt (walk_at "my enter")
  rename Kept _ _ _ => KG
  have Rg := R.kept N KG tab3_not_tuple
  have hne := tab3_ne N
  k_steps
  exact (hret _ _ _ _ (by assumption) (by assumption) (Kept.trans (by assumption) (Fr.keep (by assumption))) (fresh_of (by assumption) (by assumption)) ⟨_, [], ⟨rfl, rfl, _, rfl⟩, tab3_dx, tab3_upd, (fun _ h => nomatch h), (fun _ h => nomatch h)⟩)
theorem words10 : True := by
  k_with "my call ref" => (first | ((k_here; (with_reducible show wpAny _ _ (call (Value.ref 248) _) _ _ _); k_dflt (refine use_upd (seek_le_con _ _ _ _ _ _ _ _ _ _ _ _ _ _) ⟨(by k_asm), (by k_asm), (by k_asm), (by k_asm), (by k_asm), (by first | exact rfl | assumption), (by ktr_room), (by ktr_units)⟩ (by walk_at "my sub") (by k_updF) ⟨(by walk_at "my rows"), (by assumption), (by assumption)⟩ ?_; k_whole); walk_at "my tab post")) | fail "no")
  trivial

set_option maxHeartbeats 4000000 in
theorem seek_lt_con (w : World) (x dx RL : Addr) (t1 t2 t3 : Tok) (vp vg : Value) (r : Int) (tr : Tok) (vs : List Value) (n : Nat) (xs : List Int) :
    Con w 255 3 24 [.ref x, .int r tr] (tab3 w.params x dx RL t1 t2 t3 vp vg vs n)
      (fun h => RowsAt h vs xs ∧ Inc xs ∧ xs.length ≤ 1000)
      (PUpd (tab3 w.params x dx RL t1 t2 t3 vp vg vs n) dx (fun v o' new => new = [] ∧ v = .bool (decide (0 ≤ ((cntLt xs r : Int) - 1 : Int) ∧ ((cntLt xs r : Int) - 1 : Int) < (xs.length : Int))) ∧ ∃ tp', o' = tabDict w.params t1 t2 t3 RL (Value.int ((cntLt xs r : Int) - 1) tp') .none)) := by
  intro loose mean mg mb dp un gd cn cs aa ccd cl outer A₀ base h₀ L m s Q E ⟨B, F, X, N, T, k, hd, hu⟩ ⟨R, inc, hlen⟩ hret
  refine wpAny_call ?_
  k_dflt (walk_at "my enter")
  rename Kept _ _ _ => KG
  have Rg := R.kept N KG tab3_not_tuple
  have hne := tab3_ne N
  k_steps
  exact (hret _ _ _ _ (by assumption) (by assumption) (Kept.trans (by assumption) (Fr.keep (by assumption))) (fresh_of (by assumption) (by assumption)) ⟨_, [], ⟨rfl, rfl, _, rfl⟩, tab3_dx, tab3_upd, (fun _ h => nomatch h), (fun _ h => nomatch h)⟩)
theorem words11 : True := by
  k_with "my call ref" => (first | ((k_here; (with_reducible show wpAny _ _ (call (Value.ref 255) _) _ _ _); k_dflt (refine use_upd (seek_lt_con _ _ _ _ _ _ _ _ _ _ _ _ _ _) ⟨(by k_asm), (by k_asm), (by k_asm), (by k_asm), (by k_asm), (by first | exact rfl | assumption), (by ktr_room), (by ktr_units)⟩ (by walk_at "my sub") (by k_updF) ⟨(by walk_at "my rows"), (by assumption), (by assumption)⟩ ?_; k_whole); walk_at "my tab post")) | fail "no")
  trivial

set_option maxHeartbeats 4000000 in
theorem next_con (w : World) (x dx RL : Addr) (t1 t2 t3 : Tok) (p : Int) (tp : Tok) (vs : List Value) (n : Nat) (xs : List Int) :
    Con w 213 3 24 [.ref x] (tab3 w.params x dx RL t1 t2 t3 (.int p tp) .none vs n)
      (fun h => RowsAt h vs xs ∧ xs.length ≤ 1000)
      (PUpd (tab3 w.params x dx RL t1 t2 t3 (.int p tp) .none vs n) dx (fun v o' new => new = [] ∧ ∃ p' : Int, p' = min (p + 1) (xs.length : Int) ∧ v = .bool (decide (0 ≤ p' ∧ p' < (xs.length : Int))) ∧ ∃ tp', o' = tabDict w.params t1 t2 t3 RL (Value.int p' tp') .none)) := by
  intro loose mean mg mb dp un gd cn cs aa ccd cl outer A₀ base h₀ L m s Q E ⟨B, F, X, N, T, k, hd, hu⟩ ⟨R, hlen⟩ hret
  refine wpAny_call ?_
  k_dflt (walk_at "my enter")
  rename Kept _ _ _ => KG
  have Rg := R.kept N KG tab3_not_tuple
  have hne := tab3_ne N
  k_steps
  exact (hret _ _ _ _ (by assumption) (by assumption) (Kept.trans (by assumption) (Fr.keep (by assumption))) (fresh_of (by assumption) (by assumption)) ⟨_, [], ⟨rfl, _, by split <;> omega, rfl, _, rfl⟩, tab3_dx, tab3_upd, (fun _ h => nomatch h), (fun _ h => nomatch h)⟩)
theorem words12 : True := by
  k_with "my tab post2" => (first | (((rintro wvzw wozw wnewzw whzw wtkzw wFzw wNzw - - ⟨we1w, wpzw, whpzw, we2w, wtpzw, we3w⟩); subst we1w; subst we2w; subst we3w; (try simp only [List.nil_append] at wNzw); (try k_sweep))) | fail "no")
  k_with "my call ref" => (first | ((k_here; (with_reducible show wpAny _ _ (call (Value.ref 213) _) _ _ _); k_dflt (refine use_upd (next_con _ _ _ _ _ _ _ _ _ _ _ _) ⟨(by k_asm), (by k_asm), (by k_asm), (by k_asm), (by k_asm), (by first | exact rfl | assumption), (by ktr_room), (by ktr_units)⟩ (by walk_at "my sub") (by k_updF) ⟨(by walk_at "my rows"), (by assumption)⟩ ?_; k_whole); walk_at "my tab post2")) | fail "no")
  trivial

set_option maxHeartbeats 4000000 in
theorem prev_con (w : World) (x dx RL : Addr) (t1 t2 t3 : Tok) (p : Int) (tp : Tok) (vs : List Value) (n : Nat) (xs : List Int) :
    Con w 220 3 24 [.ref x] (tab3 w.params x dx RL t1 t2 t3 (.int p tp) .none vs n)
      (fun h => RowsAt h vs xs ∧ xs.length ≤ 1000)
      (PUpd (tab3 w.params x dx RL t1 t2 t3 (.int p tp) .none vs n) dx (fun v o' new => new = [] ∧ ∃ p' : Int, p' = max (p - 1) (-1) ∧ v = .bool (decide (0 ≤ p' ∧ p' < (xs.length : Int))) ∧ ∃ tp', o' = tabDict w.params t1 t2 t3 RL (Value.int p' tp') .none)) := by
  intro loose mean mg mb dp un gd cn cs aa ccd cl outer A₀ base h₀ L m s Q E ⟨B, F, X, N, T, k, hd, hu⟩ ⟨R, hlen⟩ hret
  refine wpAny_call ?_
  k_dflt (walk_at "my enter")
  rename Kept _ _ _ => KG
  have Rg := R.kept N KG tab3_not_tuple
  have hne := tab3_ne N
  k_steps
  exact (hret _ _ _ _ (by assumption) (by assumption) (Kept.trans (by assumption) (Fr.keep (by assumption))) (fresh_of (by assumption) (by assumption)) ⟨_, [], ⟨rfl, _, by split <;> omega, rfl, _, rfl⟩, tab3_dx, tab3_upd, (fun _ h => nomatch h), (fun _ h => nomatch h)⟩)
theorem words13 : True := by
  k_with "my tab post2" => (first | (((rintro wvzw wozw wnewzw whzw wtkzw wFzw wNzw - - ⟨we1w, wpzw, whpzw, we2w, wtpzw, we3w⟩); subst we1w; subst we2w; subst we3w; (try simp only [List.nil_append] at wNzw); (try k_sweep))) | fail "no")
  k_with "my call ref" => (first | ((k_here; (with_reducible show wpAny _ _ (call (Value.ref 220) _) _ _ _); k_dflt (refine use_upd (prev_con _ _ _ _ _ _ _ _ _ _ _ _) ⟨(by k_asm), (by k_asm), (by k_asm), (by k_asm), (by k_asm), (by first | exact rfl | assumption), (by ktr_room), (by ktr_units)⟩ (by walk_at "my sub") (by k_updF) ⟨(by walk_at "my rows"), (by assumption)⟩ ?_; k_whole); walk_at "my tab post2")) | fail "no")
  trivial

set_option maxHeartbeats 4000000 in
theorem ask_con (w : World) (x dx RL : Addr) (t1 t2 t3 : Tok) (p : Int) (tp : Tok) (vs : List Value) (n : Nat) (xs : List Int) :
    Con w 269 2 16 [.ref x] (tab3 w.params x dx RL t1 t2 t3 (.int p tp) .none vs n)
      (fun h => RowsAt h vs xs ∧ xs.length ≤ 1000 ∧ 0 ≤ p ∧ p < (xs.length : Int))
      (PNew (tab3 w.params x dx RL t1 t2 t3 (.int p tp) .none vs n) (fun v new => new = [] ∧ v = .none)) := by
  intro loose mean mg mb dp un gd cn cs aa ccd cl outer A₀ base h₀ L m s Q E ⟨B, F, X, N, T, k, hd, hu⟩ ⟨R, hlen, hp0, hp1⟩ hret
  refine wpAny_call ?_
  k_dflt (walk_at "my enter")
  rename Kept _ _ _ => KG
  have Rg := R.kept N KG tab3_not_tuple
  have hne := tab3_ne N
  k_steps
  exact (hret _ _ _ _ (by assumption) (by assumption) (Kept.trans (by assumption) (Fr.keep (by assumption))) (fresh_of (by assumption) (by assumption)) ⟨[], ⟨rfl, rfl⟩, (fun _ h => h), (fun _ h => nomatch h), (fun _ h => nomatch h)⟩)
theorem words14 : True := by
  k_with "my call ref" => (first | ((k_here; (with_reducible show wpAny _ _ (call (Value.ref 269) _) _ _ _); k_dflt (refine use_new (ask_con _ _ _ _ _ _ _ _ _ _ _ _) ⟨(by k_asm), (by k_asm), (by k_asm), (by k_asm), (by k_asm), (by first | exact rfl | assumption), (by ktr_room), (by ktr_units)⟩ (by walk_at "my sub") ⟨(by walk_at "my rows"), (by assumption), (by omega), (by omega)⟩ ?_; k_whole); (rintro wvzw wnewzw whzw wtkzw wFzw wNzw - - ⟨we1w, we2w⟩); subst we1w; subst we2w; (try simp only [List.nil_append] at wNzw); (try k_sweep))) | fail "no")
  trivial
set_option maxHeartbeats 4000000 in
theorem rowid_con (w : World) (x dx RL : Addr) (t1 t2 t3 : Tok) (p : Int) (tp : Tok) (vs : List Value) (n : Nat) (xs : List Int) :
    Con w 276 3 24 [.ref x] (tab3 w.params x dx RL t1 t2 t3 (.int p tp) .none vs n)
      (fun h => RowsAt h vs xs ∧ xs.length ≤ 1000 ∧ 0 ≤ p ∧ p < (xs.length : Int))
      (PNew (tab3 w.params x dx RL t1 t2 t3 (.int p tp) .none vs n) (fun v new => new = [] ∧ ∃ t, v = .int (xs.getD p.toNat 0) t)) := by
  intro loose mean mg mb dp un gd cn cs aa ccd cl outer A₀ base h₀ L m s Q E ⟨B, F, X, N, T, k, hd, hu⟩ ⟨R, hlen, hp0, hp1⟩ hret
  refine wpAny_call ?_
  k_dflt (walk_at "my enter")
  rename Kept _ _ _ => KG
  have Rg := R.kept N KG tab3_not_tuple
  have hne := tab3_ne N
  k_steps
  exact (hret _ _ _ _ (by assumption) (by assumption) (Kept.trans (by assumption) (Fr.keep (by assumption))) (fresh_of (by assumption) (by assumption)) ⟨[], ⟨rfl, _, rfl⟩, (fun _ h => h), (fun _ h => nomatch h), (fun _ h => nomatch h)⟩)
theorem words15 : True := by
  k_with "my call ref" => (first | ((k_here; (with_reducible show wpAny _ _ (call (Value.ref 276) _) _ _ _); k_dflt (refine use_new (rowid_con _ _ _ _ _ _ _ _ _ _ _ _) ⟨(by k_asm), (by k_asm), (by k_asm), (by k_asm), (by k_asm), (by first | exact rfl | assumption), (by ktr_room), (by ktr_units)⟩ (by walk_at "my sub") ⟨(by walk_at "my rows"), (by assumption), (by omega), (by omega)⟩ ?_; k_whole); (rintro wvzw wnewzw whzw wtkzw wFzw wNzw - - ⟨we1w, wtzw, we2w⟩); subst we1w; subst we2w; (try simp only [List.nil_append] at wNzw); (try k_sweep))) | fail "no")
  trivial
section
variable {prog : Program} {w : World} {A : Around} {E : Value → Shared → Prop} {s : Shared} {h₀ : Heap} {L D : Addr} {m : Str → Option Value} {news news' : List (Addr × Obj)} {n : Nat} {vs : List Value}
theorem rows_ins {k : Int} {u : Tok} {y : Value} {Q : Value → Shared → Prop} (F : Fr h₀ L s.heap m) (N : News h₀ L s.heap news)
    (U : Upd D (listOf vs.toArray n) (listOf (vs ++ [y]).toArray (n + 1)) news news') (hk : k = (vs.length : Int)) (hz : vs.length ≤ 1000) (h : ∀ h', Fr h₀ L h' m → News h₀ L h' news' → Q .none { s with heap := h' }) :
    wpAny (model prog w) A (call (.builtin "list.insert") [.ref D, .int k u, y]) Q E s := by
  have hz' : vs.toArray.toList.length ≤ sizeLine := by rw [sizeLine_eq]; simp; omega
  refine kl_insert F N ?_ ?_ U hz' h
  · subst hk
    simp only [Builtin.List.listFitsIndex, Bool.and_eq_true, decide_eq_true_eq]
    omega
  · subst hk
    unfold kl_ins
    have e : (if (vs.length : Int) < 0 then ((vs.length : Int) + (vs.toArray.toList.length : Int)).toNat else min (vs.length : Int).toNat vs.toArray.toList.length) = vs.length := by
      rw [if_neg (by omega)]; simp
    rw [e]
    simp
end
local macro_rules | `(tactic| walk_at "call builtin:list.insert") => `(tactic| k_extra "my call builtin:list.insert")
theorem words16 : True := by
  k_with "my call builtin:list.insert" => (first | ((k_here; (with_reducible show wpAny _ _ (call (Value.builtin _) [Value.ref _, Value.int _ _, _]) _ _ _); k_dflt (refine rows_ins (by k_asm) (by k_asm) (by k_upd) (by omega) (by omega) ?_; k_whole; intro whzw wFzw wNzw; (try k_sweep)))) | fail "no")
  trivial
theorem cntLt_all {xs : List Int} {r : Int} (h : ∀ y ∈ xs, y < r) : cntLt xs r = xs.length := by
  unfold cntLt
  rw [List.filter_eq_self.mpr (by simpa using h)]

set_option maxHeartbeats 4000000 in
theorem insert_con (w : World) (x dx RL : Addr) (t1 t2 t3 : Tok) (tp : Tok) (r : Int) (tr : Tok) (rec : Value) (vs : List Value) (n : Nat) (xs : List Int) :
    Con w 171 2 16 [.ref x, .int r tr, rec] (tab3 w.params x dx RL t1 t2 t3 (.int (-1) tp) .none vs n)
      (fun h => RowsAt h vs xs ∧ Inc xs ∧ xs.length ≤ 900 ∧ ∀ y ∈ xs, y < r)
      (PUpd (tab3 w.params x dx RL t1 t2 t3 (.int (-1) tp) .none vs n) RL (fun v o' new => v = .none ∧ ∃ ta tt nn n', new = [(ta, tupOf r tt rec nn)] ∧ o' = listOf (vs ++ [Value.ref ta]).toArray n')) := by
  intro loose mean mg mb dp un gd cn cs aa ccd cl outer A₀ base h₀ L m s Q E ⟨B, F, X, N, T, k, hd, hu⟩ ⟨R, inc, hlen, hall⟩ hret
  refine wpAny_call ?_
  k_dflt (walk_at "my enter")
  rename Kept _ _ _ => KG
  have Rg := R.kept N KG tab3_not_tuple
  have hne := tab3_ne N
  have hlen' : xs.length ≤ 1000 := by omega
  have hvs := R.1
  have hc := cntLt_all hall
  k_steps
  refine hret _ _ _ _ (by assumption) (by assumption) (Kept.trans (by assumption) (Fr.keep (by assumption))) (fresh_of (by assumption) (by assumption)) ⟨_, _, ⟨rfl, _, tr, 0, _, rfl, rfl⟩, .tail _ (.tail _ (.tail _ (.head _))), ?_, ?_, ?_⟩
  · intro q hq hq2
    cases hq with
    | head => exact .tail _ (.head _)
    | tail _ hq => cases hq with
      | head => exact .tail _ (.tail _ (.head _))
      | tail _ hq => cases hq with
        | head => exact absurd rfl hq2
        | tail _ hq => exact nomatch hq
  · intro q hq
    cases hq with
    | head => exact .head _
    | tail _ hq => exact nomatch hq
  · intro q hq hm
    cases hq with
    | tail _ hq => exact nomatch hq
    | head =>
      simp only [tab3, List.map_cons, List.map_nil, List.mem_cons, List.not_mem_nil, or_false] at hm
      rcases hm with e | e | e <;> (have e' : @Eq Nat _ _ := e; omega)
theorem words17 : True := by
  k_with "my call ref" => (first | ((k_here; (with_reducible show wpAny _ _ (call (Value.ref 171) _) _ _ _); k_dflt (refine use_upd (insert_con _ _ _ _ _ _ _ _ _ _ _ _ _ _) ⟨(by k_asm), (by k_asm), (by k_asm), (by k_asm), (by k_asm), (by first | exact rfl | assumption), (by ktr_room), (by ktr_units)⟩ (by walk_at "my sub") (by k_updF) ⟨(by walk_at "my rows"), (by assumption), (by assumption), (by assumption)⟩ ?_; k_whole); (rintro wvzw wozw wnewzw whzw wtkzw wFzw wNzw - whneww ⟨we1w, wtazw, wttzw, wnnzw, wnzw, we2w, we3w⟩); subst we1w; subst we2w; subst we3w; (try simp only [List.nil_append, List.cons_append] at wNzw); (try k_sweep))) | fail "no")
  trivial
noncomputable def seekW (bw inc : Bool) : Str := if bw then (if inc then Str.ofString "SeekLE" else Str.ofString "SeekLT") else (if inc then Str.ofString "SeekGE" else Str.ofString "SeekGT")
noncomputable def pastW (bw inc : Bool) : Str := if bw then (if inc then Str.ofString "IdxLT" else Str.ofString "IdxLE") else (if inc then Str.ofString "IdxGT" else Str.ofString "IdxGE")
noncomputable def seekP (xs : List Int) (bw inc : Bool) (key : Int) : Int :=
  if bw then (if inc then (cntLt xs (key + 1) : Int) - 1 else (cntLt xs key : Int) - 1) else (if inc then (cntLt xs key : Int) else (cntLt xs (key + 1) : Int))
noncomputable def pastB (bw inc : Bool) (r key : Int) : Bool :=
  if bw then (if inc then decide (r < key) else decide (r ≤ key)) else (if inc then decide (key < r) else decide (key ≤ r))

set_option maxHeartbeats 4000000 in
theorem seek_word_con (w : World) (bw inc : Bool) :
    Con w 28 1 8 [.bool bw, .bool inc] [] (fun _ => True) (PNew [] (fun v new => new = [] ∧ ∃ t, v = .str (seekW bw inc) t)) := by
  intro loose mean mg mb dp un gd cn cs aa ccd cl outer A₀ base h₀ L m s Q E ⟨B, F, X, N, T, k, hd, hu⟩ _ hret
  refine wpAny_call ?_
  k_dflt (walk_at "my enter")
  cases bw <;> cases inc
  all_goals k_steps
  all_goals exact hret _ _ _ _ (by assumption) (by assumption) (Kept.trans (by assumption) (Fr.keep (by assumption))) (fresh_of (by assumption) (by assumption)) ⟨[], ⟨rfl, _, rfl⟩, (fun _ h => h), (fun _ h => nomatch h), (fun _ h => nomatch h)⟩
set_option maxHeartbeats 4000000 in
theorem past_word_con (w : World) (bw inc : Bool) :
    Con w 35 1 8 [.bool bw, .bool inc] [] (fun _ => True) (PNew [] (fun v new => new = [] ∧ ∃ t, v = .str (pastW bw inc) t)) := by
  intro loose mean mg mb dp un gd cn cs aa ccd cl outer A₀ base h₀ L m s Q E ⟨B, F, X, N, T, k, hd, hu⟩ _ hret
  refine wpAny_call ?_
  k_dflt (walk_at "my enter")
  cases bw <;> cases inc
  all_goals k_steps
  all_goals exact hret _ _ _ _ (by assumption) (by assumption) (Kept.trans (by assumption) (Fr.keep (by assumption))) (fresh_of (by assumption) (by assumption)) ⟨[], ⟨rfl, _, rfl⟩, (fun _ h => h), (fun _ h => nomatch h), (fun _ h => nomatch h)⟩
set_option maxHeartbeats 4000000 in
theorem is_past_con (w : World) (bw inc : Bool) (t : Tok) (r : Int) (tr : Tok) (key : Int) (tk : Tok) :
    Con w 530 1 8 [.str (pastW bw inc) t, .int r tr, .int key tk] [] (fun _ => True) (PNew [] (fun v new => new = [] ∧ v = .bool (pastB bw inc r key))) := by
  intro loose mean mg mb dp un gd cn cs aa ccd cl outer A₀ base h₀ L m s Q E ⟨B, F, X, N, T, k, hd, hu⟩ _ hret
  refine wpAny_call ?_
  k_dflt (walk_at "my enter")
  cases bw <;> cases inc
  all_goals dsimp only [pastW] at *
  all_goals simp only [if_true, if_false, Bool.false_eq_true] at *
  all_goals k_steps
  all_goals refine bool_ret (b := pastB _ _ r key) ?_ (hret _ _ _ _ (by assumption) (by assumption) (Kept.trans (by assumption) (Fr.keep (by assumption))) (fresh_of (by assumption) (by assumption)) ⟨[], ⟨rfl, rfl⟩, (fun _ h => h), (fun _ h => nomatch h), (fun _ h => nomatch h)⟩)
  all_goals rw [Bool.eq_iff_iff]
  all_goals simp only [pastB, decide_eq_true_eq, beq_iff_eq, if_true, if_false, Bool.false_eq_true, false_iff, show (Str.ofString "IdxGT" == Str.ofString "IdxGE") = false from by decide +kernel, show (Str.ofString "IdxLT" == Str.ofString "IdxLE") = false from by decide +kernel]
  all_goals omega
set_option maxHeartbeats 4000000 in
theorem law_stand_con (w : World) (x dx RL : Addr) (t1 t2 t3 : Tok) (vp vg : Value) (bw inc : Bool) (t : Tok) (key : Int) (tk : Tok) (vs : List Value) (n : Nat) (xs : List Int) :
    Con w 523 4 32 [.ref x, .str (seekW bw inc) t, .int key tk] (tab3 w.params x dx RL t1 t2 t3 vp vg vs n)
      (fun h => RowsAt h vs xs ∧ Inc xs ∧ xs.length ≤ 1000)
      (PUpd (tab3 w.params x dx RL t1 t2 t3 vp vg vs n) dx (fun v o' new => new = [] ∧ v = .bool (decide (0 ≤ seekP xs bw inc key ∧ seekP xs bw inc key < (xs.length : Int))) ∧ ∃ tp', o' = tabDict w.params t1 t2 t3 RL (Value.int (seekP xs bw inc key) tp') .none)) := by
  intro loose mean mg mb dp un gd cn cs aa ccd cl outer A₀ base h₀ L m s Q E ⟨B, F, X, N, T, k, hd, hu⟩ ⟨R, inc', hlen⟩ hret
  refine wpAny_call ?_
  k_dflt (walk_at "my enter")
  rename Kept _ _ _ => KG
  have Rg := R.kept N KG tab3_not_tuple
  have hne := tab3_ne N
  cases bw <;> cases inc
  all_goals dsimp only [seekW] at *
  all_goals simp only [if_true, if_false, Bool.false_eq_true] at *
  all_goals k_steps
  all_goals exact (hret _ _ _ _ (by assumption) (by assumption) (Kept.trans (by assumption) (Fr.keep (by assumption))) (fresh_of (by assumption) (by assumption)) ⟨_, [], ⟨rfl, rfl, _, rfl⟩, tab3_dx, tab3_upd, (fun _ h => nomatch h), (fun _ h => nomatch h)⟩)
theorem words18 : True := by
  k_with "my call ref" => (first | ((k_here; (with_reducible show wpAny _ _ (call (Value.ref 28) _) _ _ _); k_dflt (refine use_new (seek_word_con _ _ _) ⟨(by k_asm), (by k_asm), (by k_asm), (by k_asm), (by k_asm), (by first | exact rfl | assumption), (by ktr_room), (by ktr_units)⟩ (by walk_at "my sub") (by trivial) ?_; k_whole); (rintro wvzw wnewzw whzw wtkzw wFzw wNzw - - ⟨we1w, wtzw, we2w⟩); subst we1w; subst we2w; (try simp only [List.nil_append] at wNzw); (try k_sweep))) | fail "no")
  k_with "my call ref" => (first | ((k_here; (with_reducible show wpAny _ _ (call (Value.ref 35) _) _ _ _); k_dflt (refine use_new (past_word_con _ _ _) ⟨(by k_asm), (by k_asm), (by k_asm), (by k_asm), (by k_asm), (by first | exact rfl | assumption), (by ktr_room), (by ktr_units)⟩ (by walk_at "my sub") (by trivial) ?_; k_whole); (rintro wvzw wnewzw whzw wtkzw wFzw wNzw - - ⟨we1w, wtzw, we2w⟩); subst we1w; subst we2w; (try simp only [List.nil_append] at wNzw); (try k_sweep))) | fail "no")
  k_with "my call ref" => (first | ((k_here; (with_reducible show wpAny _ _ (call (Value.ref 530) _) _ _ _); k_dflt (refine use_new (is_past_con _ _ _ _ _ _ _ _) ⟨(by k_asm), (by k_asm), (by k_asm), (by k_asm), (by k_asm), (by first | exact rfl | assumption), (by ktr_room), (by ktr_units)⟩ (by walk_at "my sub") (by trivial) ?_; k_whole); (rintro wvzw wnewzw whzw wtkzw wFzw wNzw - - ⟨we1w, we2w⟩); subst we1w; subst we2w; (try simp only [List.nil_append] at wNzw); (try k_sweep))) | fail "no")
  k_with "my call ref" => (first | ((k_here; (with_reducible show wpAny _ _ (call (Value.ref 523) _) _ _ _); k_dflt (refine use_upd (law_stand_con _ _ _ _ _ _ _ _ _ _ _ _ _ _ _ _ _) ⟨(by k_asm), (by k_asm), (by k_asm), (by k_asm), (by k_asm), (by first | exact rfl | assumption), (by ktr_room), (by ktr_units)⟩ (by walk_at "my sub") (by k_updF) ⟨(by walk_at "my rows"), (by assumption), (by assumption)⟩ ?_; k_whole); walk_at "my tab post")) | fail "no")
  trivial
/-- what stands between both ends -/
noncomputable def dueOf (xs : List Int) (lo : Int) (li : Bool) (hi : Int) (hii : Bool) : List Int :=
  xs.filter fun r => (decide (lo < r) || (decide (r = lo) && li)) && (decide (r < hi) || (decide (r = hi) && hii))
/-- what the walk has still ahead of it at place p -/
noncomputable def restOf (bw : Bool) (xs : List Int) (p : Int) : List Int := if bw then (xs.take (p + 1).toNat).reverse else xs.drop p.toNat
noncomputable def stepOf (bw : Bool) (len p : Int) : Int := if bw then max (p - 1) (-1) else min (p + 1) len
/-- the walk from the begin (b, bi) until past the end (e, ei) -/
noncomputable def walkOf (bw : Bool) (xs : List Int) (b : Int) (bi : Bool) (e : Int) (ei : Bool) : List Int := (restOf bw xs (seekP xs bw bi b)).takeWhile fun r => !pastB bw ei r e
structure WInv (bw : Bool) (xs : List Int) (q : Int → Bool) (spec : List Int) (p : Int) (fs : List Int) : Prop where
  lo : if bw then -1 ≤ p else 0 ≤ p
  hi : if bw then p < (xs.length : Int) else p ≤ (xs.length : Int)
  is : fs ++ (restOf bw xs p).takeWhile q = spec
noncomputable def wMeas (bw : Bool) (xs : List Int) (p : Int) : Nat := if bw then (p + 1).toNat else (xs.length - p).toNat

theorem rest_cons {bw : Bool} {xs : List Int} {p : Int} (h0 : 0 ≤ p) (h1 : p < (xs.length : Int)) : restOf bw xs p = xs.getD p.toNat 0 :: restOf bw xs (stepOf bw (xs.length : Int) p) := by
  have hk : p.toNat < xs.length := by omega
  have hg : xs.getD p.toNat 0 = xs[p.toNat] := by simp [List.getD, List.getElem?_eq_getElem hk]
  cases bw with
  | false =>
    simp only [restOf, stepOf, Bool.false_eq_true, if_false]
    have e : (min (p + 1) (xs.length : Int)).toNat = p.toNat + 1 := by omega
    rw [e, hg, ← List.drop_eq_getElem_cons hk]
  | true =>
    simp only [restOf, stepOf, if_true]
    have e1 : (p + 1).toNat = p.toNat + 1 := by omega
    have e2 : (max (p - 1) (-1) + 1).toNat = p.toNat := by omega
    rw [e1, e2, hg, List.take_add_one, List.getElem?_eq_getElem hk]
    simp
theorem winv_start (bw : Bool) (xs : List Int) (b : Int) (bi : Bool) (e : Int) (ei : Bool) : WInv bw xs (fun r => !pastB bw ei r e) (walkOf bw xs b bi e ei) (seekP xs bw bi b) [] := by
  have h1 := cntLt_le xs b
  have h2 := cntLt_le xs (b + 1)
  refine ⟨?_, ?_, rfl⟩ <;> cases bw <;> cases bi <;> simp [seekP] <;> omega
theorem winv_step {bw : Bool} {xs : List Int} {q : Int → Bool} {spec : List Int} {p p' : Int} {fs : List Int} (W : WInv bw xs q spec p fs) (h0 : 0 ≤ p) (h1 : p < (xs.length : Int)) (hq : q (xs.getD p.toNat 0) = true) (hp : p' = stepOf bw (xs.length : Int) p) :
    WInv bw xs q spec p' (fs ++ [xs.getD p.toNat 0]) ∧ wMeas bw xs p' < wMeas bw xs p := by
  subst hp
  refine ⟨⟨?_, ?_, ?_⟩, ?_⟩
  · cases bw <;> simp [stepOf] <;> omega
  · cases bw <;> simp [stepOf] <;> omega
  · have := W.is
    rw [rest_cons h0 h1, List.takeWhile_cons, hq] at this
    simpa using this
  · cases bw <;> simp [stepOf, wMeas] <;> omega
theorem winv_out {bw : Bool} {xs : List Int} {q : Int → Bool} {spec : List Int} {p : Int} {fs : List Int} (W : WInv bw xs q spec p fs) (h : ¬ (0 ≤ p ∧ p < (xs.length : Int))) : fs = spec := by
  have a := W.lo
  have b := W.hi
  rw [← W.is]
  have e : restOf bw xs p = [] := by
    cases bw with
    | false =>
      simp only [Bool.false_eq_true, if_false] at a b
      simp only [restOf, Bool.false_eq_true, if_false]
      exact List.drop_eq_nil_of_le (by omega)
    | true =>
      simp only [if_true] at a b
      simp only [restOf, if_true]
      have : (p + 1).toNat = 0 := by omega
      rw [this]; simp
  rw [e]; simp
theorem winv_past {bw : Bool} {xs : List Int} {q : Int → Bool} {spec : List Int} {p : Int} {fs : List Int} (W : WInv bw xs q spec p fs) (h0 : 0 ≤ p) (h1 : p < (xs.length : Int)) (hq : q (xs.getD p.toNat 0) = false) : fs = spec := by
  rw [← W.is, rest_cons h0 h1, List.takeWhile_cons, hq]
  simp

theorem take_cnt {xs : List Int} (inc : Inc xs) (k : Int) : xs.take (cntLt xs k) = xs.filter fun r => decide (r < k) := by
  induction xs with
  | nil => rfl
  | cons y ys ih =>
    obtain ⟨hy, hys⟩ := List.pairwise_cons.mp inc
    by_cases h : y < k
    · have e : cntLt (y :: ys) k = cntLt ys k + 1 := by unfold cntLt; rw [List.filter_cons, if_pos (by simpa using h)]; rfl
      rw [e, List.take_succ_cons, ih hys, List.filter_cons, if_pos (by simpa using h)]
    · have e : (y :: ys).filter (fun r => decide (r < k)) = [] := by
        rw [List.filter_eq_nil_iff]
        intro z hz
        simp only [decide_eq_true_eq]
        rcases List.mem_cons.mp hz with rfl | hz
        · exact h
        · have := hy z hz; omega
      have e2 : cntLt (y :: ys) k = 0 := by unfold cntLt; rw [e]; rfl
      rw [e2, e]; rfl
theorem drop_cnt {xs : List Int} (inc : Inc xs) (k : Int) : xs.drop (cntLt xs k) = xs.filter fun r => decide (k ≤ r) := by
  induction xs with
  | nil => rfl
  | cons y ys ih =>
    obtain ⟨hy, hys⟩ := List.pairwise_cons.mp inc
    by_cases h : y < k
    · have e : cntLt (y :: ys) k = cntLt ys k + 1 := by unfold cntLt; rw [List.filter_cons, if_pos (by simpa using h)]; rfl
      rw [e, List.drop_succ_cons, ih hys, List.filter_cons, if_neg (by simp; omega)]
    · have e : (y :: ys).filter (fun r => decide (r < k)) = [] := by
        rw [List.filter_eq_nil_iff]
        intro z hz
        simp only [decide_eq_true_eq]
        rcases List.mem_cons.mp hz with rfl | hz
        · exact h
        · have := hy z hz; omega
      have e2 : cntLt (y :: ys) k = 0 := by unfold cntLt; rw [e]; rfl
      rw [e2, List.drop_zero, List.filter_eq_self.mpr]
      intro z hz
      simp only [decide_eq_true_eq]
      rcases List.mem_cons.mp hz with rfl | hz
      · omega
      · have := hy z hz; omega
theorem takeWhile_is_filter {q : Int → Bool} : ∀ {ys : List Int}, ys.Pairwise (fun a b => q b = true → q a = true) → ys.takeWhile q = ys.filter q
  | [], _ => rfl
  | y :: ys, h => by
    obtain ⟨hy, hys⟩ := List.pairwise_cons.mp h
    rw [List.takeWhile_cons, List.filter_cons]
    cases hq : q y with
    | true => simp [takeWhile_is_filter hys]
    | false =>
      simp only [Bool.false_eq_true, if_false]
      symm
      rw [List.filter_eq_nil_iff]
      intro z hz hqz
      rw [hy z hz hqz] at hq
      cases hq
theorem walk_fwd {xs : List Int} (inc : Inc xs) (lo : Int) (li : Bool) (hi : Int) (hii : Bool) : walkOf false xs lo li hi hii = dueOf xs lo li hi hii := by
  have e1 : restOf false xs (seekP xs false li lo) = xs.filter fun r => decide (lo < r) || (decide (r = lo) && li) := by
    cases li with
    | true =>
      simp only [restOf, seekP, Bool.false_eq_true, if_false, if_true, Int.toNat_natCast, Bool.and_true]
      rw [drop_cnt inc]
      refine List.filter_congr fun r _ => ?_
      rw [Bool.eq_iff_iff]
      simp only [decide_eq_true_eq, Bool.or_eq_true]
      omega
    | false =>
      simp only [restOf, seekP, Bool.false_eq_true, if_false, Int.toNat_natCast, Bool.and_false, Bool.or_false]
      rw [drop_cnt inc]
      refine List.filter_congr fun r _ => ?_
      rw [Bool.eq_iff_iff]
      simp only [decide_eq_true_eq]
      omega
  unfold walkOf
  rw [e1, takeWhile_is_filter, List.filter_filter]
  · unfold dueOf
    refine List.filter_congr fun r _ => ?_
    rw [Bool.eq_iff_iff]
    cases hii <;> simp only [pastB, Bool.false_eq_true, if_false, if_true, Bool.and_eq_true, Bool.not_eq_true', decide_eq_false_iff_not, decide_eq_true_eq, Bool.or_eq_true, and_false, or_false, and_true] <;> (constructor <;> (rintro ⟨h1, h2⟩; first | exact ⟨h2, by omega⟩ | exact ⟨by omega, h1⟩))
  · refine List.Pairwise.imp ?_ (List.Pairwise.filter _ inc)
    intro a b hab
    cases hii <;> simp only [pastB, Bool.false_eq_true, if_false, if_true, Bool.not_eq_true', decide_eq_false_iff_not] <;> omega
theorem walk_bwd {xs : List Int} (inc : Inc xs) (lo : Int) (li : Bool) (hi : Int) (hii : Bool) : walkOf true xs hi hii lo li = (dueOf xs lo li hi hii).reverse := by
  have e1 : restOf true xs (seekP xs true hii hi) = (xs.filter fun r => decide (r < hi) || (decide (r = hi) && hii)).reverse := by
    cases hii with
    | true =>
      simp only [restOf, seekP, if_true, Bool.and_true]
      have e : ((cntLt xs (hi + 1) : Int) - 1 + 1).toNat = cntLt xs (hi + 1) := by omega
      rw [e, take_cnt inc]
      congr 1
      refine List.filter_congr fun r _ => ?_
      rw [Bool.eq_iff_iff]
      simp only [decide_eq_true_eq, Bool.or_eq_true]
      omega
    | false =>
      simp only [restOf, seekP, if_true, Bool.false_eq_true, if_false, Bool.and_false, Bool.or_false]
      have e : ((cntLt xs hi : Int) - 1 + 1).toNat = cntLt xs hi := by omega
      rw [e, take_cnt inc]
  unfold walkOf
  rw [e1, takeWhile_is_filter, List.filter_reverse, List.filter_filter]
  · unfold dueOf
    congr 1
    refine List.filter_congr fun r _ => ?_
    rw [Bool.eq_iff_iff]
    cases li <;> simp only [pastB, Bool.false_eq_true, if_false, if_true, Bool.and_eq_true, Bool.not_eq_true', decide_eq_false_iff_not, decide_eq_true_eq, Bool.or_eq_true, and_false, or_false, and_true] <;> (constructor <;> (rintro ⟨h1, h2⟩; first | exact ⟨by omega, h2⟩ | exact ⟨by omega, by omega⟩))
  · rw [List.pairwise_reverse]
    refine List.Pairwise.imp ?_ (List.Pairwise.filter _ inc)
    intro a b hab
    cases li <;> simp only [pastB, Bool.false_eq_true, if_false, if_true, Bool.not_eq_true', decide_eq_false_iff_not] <;> omega
noncomputable abbrev pairOf (x : Int) (t : Tok) (b : Bool) (n : Nat) : Obj := tupOf x t (.bool b) n
/-- the rows' tuples, in the ledger's tail -/
def RowsIn (tups : List (Addr × Obj)) (vs : List Value) (xs : List Int) : Prop :=
  vs.length = xs.length ∧ ∀ (i : Nat) (x : Int), xs[i]? = some x → ∃ a t r n, vs[i]? = some (Value.ref a) ∧ (a, tupOf x t r n) ∈ tups
theorem RowsIn.at {h₀ h : Heap} {L : Addr} {news tups : List (Addr × Obj)} {vs : List Value} {xs : List Int} (R : RowsIn tups vs xs) (N : News h₀ L h news) (hs : ∀ p ∈ tups, p ∈ news) : RowsAt h vs xs :=
  ⟨R.1, fun i x e => let ⟨a, t, r, n, p, q⟩ := R.2 i x e; ⟨a, t, r, n, p, (N _ (hs _ q)).1⟩⟩
theorem RowsIn.snoc {tups : List (Addr × Obj)} {vs : List Value} {xs : List Int} {k : Int} {a : Addr} {t : Tok} {r : Value} {n : Nat} (R : RowsIn tups vs xs) : RowsIn ((a, tupOf k t r n) :: tups) (vs ++ [Value.ref a]) (xs ++ [k]) := by
  refine ⟨by simp [R.1], fun i x e => ?_⟩
  by_cases hi : i < xs.length
  · rw [List.getElem?_append_left hi] at e
    obtain ⟨a', t', r', n', p, q⟩ := R.2 i x e
    exact ⟨a', t', r', n', by rw [List.getElem?_append_left (by rw [R.1]; exact hi)]; exact p, .tail _ q⟩
  · rw [List.getElem?_append_right (by omega)] at e
    have : i - xs.length = 0 := by
      cases hq : i - xs.length with
      | zero => rfl
      | succ j => rw [hq] at e; simp at e
    rw [this] at e
    simp only [List.getElem?_cons_zero, Option.some.injEq] at e
    subst e
    exact ⟨a, t, r, n, by rw [List.getElem?_append_right (by rw [R.1]; omega), R.1, this]; rfl, .head _⟩

noncomputable abbrev tab4 (P : Params) (x dx RL FD : Addr) (t1 t2 t3 : Tok) (vp vg : Value) (vs : List Value) (n : Nat) (fs : List Value) (nf : Nat) (r : List (Addr × Obj)) : List (Addr × Obj) :=
  (x, instObj 300 dx) :: (dx, tabDict P t1 t2 t3 RL vp vg) :: (RL, listOf vs.toArray n) :: (FD, listOf fs.toArray nf) :: r
theorem sub_news {h₀ h : Heap} {L : Addr} {news sub : List (Addr × Obj)} (N : News h₀ L h news) (hs : ∀ p ∈ sub, p ∈ news) : News h₀ L h sub := fun p hp => N p (hs p hp)

def InsEnd (h₀ : Heap) (L : Addr) (s : Shared) (P : Params) (x dx RL FD : Addr) (t1 t2 t3 : Tok) (vp vg : Value) (nf : Nat) (v : Str) (m₀ : Str → Option Value) (k : Int) (vs : List Value) (n : Nat) (r : List (Addr × Obj)) (f : Flow) (s₂ : Shared) : Prop :=
  f = .next ∧ ∃ h' tk' m' ta tt rr nn n', s₂ = { s with heap := h', toks := tk' } ∧ Fr h₀ L h' m' ∧ (∀ z, z ≠ v → m' z = m₀ z) ∧ News h₀ L h' ((ta, tupOf k tt rr nn) :: tab4 P x dx RL FD t1 t2 t3 vp vg (vs ++ [Value.ref ta]) n' [] nf r) ∧ ∀ p ∈ tab4 P x dx RL FD t1 t2 t3 vp vg vs n [] nf r, @Ne Nat p.1 ta
section
variable {prog : Program} {w : World} {A : Around} {E : Value → Shared → Prop} {s : Shared} {env : PySem.Env} {h₀ : Heap} {body : List Stmt} {Q : Flow → Shared → Prop}
/-- the loop that inserts: each turn appends one row -/
theorem ins_loop {v : Str} {l : Addr} {us : List Value} {xs : List Int} {m₀ : Str → Option Value} {news : List (Addr × Obj)} {P : Params} {x dx RL FD : Addr} {t1 t2 t3 : Tok} {vp vg : Value} {n₀ nf : Nat}
    (hh : A.handled = none) (hl : h₀.IsList l us.toArray) (hi : IntsAre us xs) (F : Fr h₀ env.locals s.heap m₀) (N : News h₀ env.locals s.heap news) (hs : ∀ p ∈ tab4 P x dx RL FD t1 t2 t3 vp vg [] n₀ [] nf [], p ∈ news)
    (turn : ∀ i k t vs n tups own h tk, xs[i]? = some k → RowsIn tups vs (xs.take i) → (∀ p ∈ tups ++ own, @Ne Nat p.1 x) → (∀ p ∈ tups ++ own, @Ne Nat p.1 dx) → (∀ p ∈ tups ++ own, @Ne Nat p.1 RL) → (∀ p ∈ tups ++ own, @Ne Nat p.1 FD) →
      Fr h₀ env.locals h (fun y => if y = v then some (.int k t) else m₀ y) → News h₀ env.locals h (tab4 P x dx RL FD t1 t2 t3 vp vg vs n [] nf (tups ++ own)) →
      wpAny (model prog w) A (execs body env) (InsEnd h₀ env.locals s P x dx RL FD t1 t2 t3 vp vg nf v m₀ k vs n (tups ++ own)) E { s with heap := h, toks := tk })
    (done : ∀ (u : Str → Option Value) vs n tups h tk, RowsIn tups vs xs → (∀ p ∈ tups, @Ne Nat p.1 x) → (∀ p ∈ tups, @Ne Nat p.1 dx) → (∀ p ∈ tups, @Ne Nat p.1 RL) → (∀ p ∈ tups, @Ne Nat p.1 FD) → Fr h₀ env.locals h (fun y => if y = v then u y else m₀ y) → News h₀ env.locals h (tab4 P x dx RL FD t1 t2 t3 vp vg vs n [] nf tups) → Q .next { s with heap := h, toks := tk }) :
    wpAny (model prog w) A (pyIter (.ref l)) (fun it s₂ => LoopAtV prog w A h₀ env v body Q E it s₂) E s := by
  refine iter_invG (fun i m nx => ∃ vs n tups, nx = tab4 P x dx RL FD t1 t2 t3 vp vg vs n [] nf tups ∧ RowsIn tups vs (xs.take i) ∧ (∀ p ∈ tups, @Ne Nat p.1 x ∧ @Ne Nat p.1 dx ∧ @Ne Nat p.1 RL ∧ @Ne Nat p.1 FD) ∧ ∀ z, z ≠ v → m z = m₀ z) hh hl hi F (sub_news N hs) ⟨[], n₀, [], rfl, ⟨rfl, fun i x e => by simp at e⟩, (fun _ h => nomatch h), fun _ _ => rfl⟩ ?_ ?_
  · rintro i k t m₁ nx h tk own hk _ hoff ⟨vs, n, tups, rfl, R, hne, hm⟩ F₁ N₁
    rw [map_none hm] at F₁
    have off : ∀ b, b ∈ (tab4 P x dx RL FD t1 t2 t3 vp vg vs n [] nf tups).map (·.1) → ∀ p ∈ own, @Ne Nat p.1 b := fun b hb p hp => hoff p hp b hb
    have two : ∀ {a : Addr}, (∀ p ∈ tups, @Ne Nat p.1 a) → (∀ p ∈ own, @Ne Nat p.1 a) → ∀ p ∈ tups ++ own, @Ne Nat p.1 a := fun h1 h2 p hp => (List.mem_append.mp hp).elim (h1 p) (h2 p)
    refine wpAny_mono (turn i k t vs n tups own h tk hk R (two (fun p hp => (hne p hp).1) (off _ (by simp))) (two (fun p hp => (hne p hp).2.1) (off _ (by simp))) (two (fun p hp => (hne p hp).2.2.1) (off _ (by simp))) (two (fun p hp => (hne p hp).2.2.2) (off _ (by simp))) F₁ N₁) ?_ fun _ _ e => e
    rintro f s₂ ⟨rfl, h', tk', m', ta, tt, rr, nn, n', rfl, F', hm', N', hta⟩
    refine InvEndG.intro (nx := tab4 P x dx RL FD t1 t2 t3 vp vg (vs ++ [Value.ref ta]) n' [] nf ((ta, tupOf k tt rr nn) :: tups)) F' N' ⟨_, _, _, rfl, ?_, ?_, hm'⟩ ?_ ?_ ?_
    · rw [List.take_add_one, hk]
      exact R.snoc
    · intro p hp
      rcases List.mem_cons.mp hp with rfl | hp
      · refine ⟨?_, ?_, ?_, ?_⟩
        · exact fun e => hta _ (.head _) e.symm
        · exact fun e => hta _ (.tail _ (.head _)) e.symm
        · exact fun e => hta _ (.tail _ (.tail _ (.head _))) e.symm
        · exact fun e => hta _ (.tail _ (.tail _ (.tail _ (.head _)))) e.symm
      · exact hne p hp
    · intro p hp b hb
      simp only [tab4, List.map_cons, List.mem_cons] at hb
      rcases hb with rfl | rfl | rfl | rfl | rfl | hb
      · exact off _ (by simp) p hp
      · exact off _ (by simp) p hp
      · exact off _ (by simp) p hp
      · exact off _ (by simp) p hp
      · exact hta p (by simp only [tab4, List.mem_cons, List.mem_append]; exact .inr (.inr (.inr (.inr (.inr hp)))))
      · exact off b (by simp only [tab4, List.map_cons, List.mem_cons]; exact .inr (.inr (.inr (.inr hb)))) p hp
    · intro p hp
      simp only [tab4, List.mem_cons, List.mem_append] at hp ⊢
      rcases hp with h1 | h1 | h1 | h1 | h1 | h1
      · exact .inr (.inl h1)
      · exact .inr (.inr (.inl h1))
      · exact .inr (.inr (.inr (.inl h1)))
      · exact .inr (.inr (.inr (.inr (.inl h1))))
      · exact .inl h1
      · exact .inr (.inr (.inr (.inr (.inr (.inl h1)))))
    · intro p hp
      simp only [tab4, List.mem_cons, List.mem_append]
      exact .inr (.inr (.inr (.inr (.inr (.inr hp)))))
  · rintro m₁ nx h tk ⟨vs, n, tups, rfl, R, hne, hm⟩ F₁ N₁
    rw [List.take_length] at R
    rw [← done_none hm] at F₁
    exact done m₁ vs n tups h tk R (fun p hp => (hne p hp).1) (fun p hp => (hne p hp).2.1) (fun p hp => (hne p hp).2.2.1) (fun p hp => (hne p hp).2.2.2) F₁ N₁
end
section
variable {prog : Program} {w : World} {A : Around} {E : Value → Shared → Prop} {s : Shared} {env : PySem.Env} {h₀ : Heap} {L : Addr} {test : PySem.Expr} {body : List Stmt} {pos : Pos} {Q : Flow → Shared → Prop}
def WStep (h₀ : Heap) (L : Addr) (s : Shared) (P : Params) (x dx RL FD : Addr) (t1 t2 t3 : Tok) (vs : List Value) (n : Nat) (tups : List (Addr × Obj)) (v : Str) (m₀ : Str → Option Value) (bw : Bool) (xs : List Int) (q : Int → Bool) (spec : List Int) (p : Int) (f : Flow) (s₂ : Shared) : Prop :=
  f = .next ∧ ∃ h' tk' m' p' tp' fs' us' nf', s₂ = { s with heap := h', toks := tk' } ∧ Fr h₀ L h' m' ∧ (∀ z, z ≠ v → m' z = m₀ z) ∧ m' v = some (.bool (decide (0 ≤ p' ∧ p' < (xs.length : Int)))) ∧
    News h₀ L h' (tab4 P x dx RL FD t1 t2 t3 (.int p' tp') .none vs n us' nf' tups) ∧ WInv bw xs q spec p' fs' ∧ IntsAre us' fs' ∧ wMeas bw xs p' < wMeas bw xs p
theorem winv_len {bw : Bool} {xs : List Int} {q : Int → Bool} {spec : List Int} {p : Int} {fs : List Int} (W : WInv bw xs q spec p fs) : fs.length ≤ spec.length := by
  rw [← W.is, List.length_append]; omega
theorem walk_loop {v : Str} {m₀ : Str → Option Value} {news tups : List (Addr × Obj)} {P : Params} {x dx RL FD : Addr} {t1 t2 t3 : Tok} {vs : List Value} {n : Nat} {bw : Bool} {xs : List Int} {q : Int → Bool} {spec : List Int} {p₀ : Int} {tp₀ : Tok} {fs₀ : List Int} {us₀ : List Value} {nf₀ : Nat}
    (F : Fr h₀ L s.heap m₀) (N : News h₀ L s.heap news) (hs : ∀ p ∈ tab4 P x dx RL FD t1 t2 t3 (.int p₀ tp₀) .none vs n us₀ nf₀ tups, p ∈ news) (hv : m₀ v = some (.bool (decide (0 ≤ p₀ ∧ p₀ < (xs.length : Int))))) (W₀ : WInv bw xs q spec p₀ fs₀) (I₀ : IntsAre us₀ fs₀)
    (turn : ∀ p tp fs us nf h tk, WInv bw xs q spec p fs → IntsAre us fs → us.length ≤ spec.length → Fr h₀ L h (fun y => if y = v then some (.bool (decide (0 ≤ p ∧ p < (xs.length : Int)))) else m₀ y) → News h₀ L h (tab4 P x dx RL FD t1 t2 t3 (.int p tp) .none vs n us nf tups) →
      wpAny (model prog w) A (isTrue test env (eval test env)) (fun b s₂ => if b = true then wpAny (model prog w) A (execs body env) (WStep h₀ L s P x dx RL FD t1 t2 t3 vs n tups v m₀ bw xs q spec p) E s₂ else Q .next s₂) E { s with heap := h, toks := tk })
    (hE : PassesOwn (model prog w) A env E := by passes_own) :
    wpAny (model prog w) A (exec (.While test body [] pos) env) Q E s := by
  refine While_inv2 (fun k m nx => ∃ p tp fs us nf, k = wMeas bw xs p ∧ nx = tab4 P x dx RL FD t1 t2 t3 (.int p tp) .none vs n us nf tups ∧ WInv bw xs q spec p fs ∧ IntsAre us fs ∧ m v = some (.bool (decide (0 ≤ p ∧ p < (xs.length : Int)))) ∧ ∀ z, z ≠ v → m z = m₀ z) F (sub_news N hs) ⟨p₀, tp₀, fs₀, us₀, nf₀, rfl, rfl, W₀, I₀, hv, fun _ _ => rfl⟩ ?_ hE
  rintro k m₁ nx h tk F₁ N₁ ⟨p, tp, fs, us, nf, rfl, rfl, W, I, h1, h2⟩
  have em : m₁ = fun y => if y = v then some (.bool (decide (0 ≤ p ∧ p < (xs.length : Int)))) else m₀ y := by
    funext y
    by_cases hy : y = v
    · subst hy; simp [h1]
    · simp only [if_neg hy]; exact h2 y hy
  rw [em] at F₁
  refine wpAny_mono (turn p tp fs us nf h tk W I (by rw [I.length]; exact winv_len W) F₁ N₁) (fun b s₂ hb => ?_) fun _ _ x => x
  cases b with
  | false => simpa using hb
  | true =>
    simp only [if_true] at hb ⊢
    refine wpAny_mono hb (fun f s₃ hf => ?_) fun _ _ x => x
    obtain ⟨rfl, h', tk', m', p', tp', fs', us', nf', rfl, F', hm', hv', N', W', I', hl⟩ := hf
    exact ⟨h', tk', m', _, wMeas bw xs p', rfl, F', N', hl, p', tp', fs', us', nf', rfl, rfl, W', I', hv', hm'⟩
end
theorem walk_len {bw : Bool} {xs : List Int} {b : Int} {bi : Bool} {e : Int} {ei : Bool} : (walkOf bw xs b bi e ei).length ≤ xs.length := by
  refine Nat.le_trans (List.takeWhile_sublist _).length_le ?_
  cases bw <;> simp [restOf] <;> omega
theorem ins_end {s : Shared} {h₀ h' : Heap} {L : Addr} {P : Params} {x dx RL FD ta : Addr} {t1 t2 t3 tt : Tok} {vp vg rr : Value} {nf nn n n' tk' : Nat} {v : Str} {m₀ m' : Str → Option Value} {k : Int} {vs : List Value} {r : List (Addr × Obj)}
    (F : Fr h₀ L h' m') (hm : ∀ z, z ≠ v → m' z = m₀ z) (N : News h₀ L h' ((ta, tupOf k tt rr nn) :: tab4 P x dx RL FD t1 t2 t3 vp vg (vs ++ [Value.ref ta]) n' [] nf r)) (hn : ∀ p ∈ tab4 P x dx RL FD t1 t2 t3 vp vg vs n [] nf r, ∀ q ∈ [(ta, tupOf k tt rr nn)], @Ne Nat p.1 q.1) :
    InsEnd h₀ L s P x dx RL FD t1 t2 t3 vp vg nf v m₀ k vs n r .next { s with heap := h', toks := tk' } :=
  ⟨rfl, _, _, _, _, _, _, _, _, rfl, F, hm, N, fun p hp => hn p hp _ (.head _)⟩
theorem end_past {bw : Bool} {xs : List Int} {spec : List Int} {p e : Int} {ei : Bool} {fs : List Int} {us : List Value} (W : WInv bw xs (fun r => !pastB bw ei r e) spec p fs) (I : IntsAre us fs) (h : 0 ≤ p ∧ p < (xs.length : Int)) (hp : pastB bw ei (xs.getD p.toNat 0) e = true) : IntsAre us spec :=
  winv_past W h.1 h.2 (congrArg (! ·) hp) ▸ I
theorem end_out {bw : Bool} {xs : List Int} {spec : List Int} {p : Int} {q : Int → Bool} {fs : List Int} {us : List Value} (W : WInv bw xs q spec p fs) (I : IntsAre us fs) (h : ¬ (0 ≤ p ∧ p < (xs.length : Int))) : IntsAre us spec :=
  winv_out W h ▸ I
theorem app_ints {prog : Program} {w : World} {A : Around} {E : Value → Shared → Prop} {s : Shared} {h₀ : Heap} {L D : Addr} {m : Str → Option Value} {news news' : List (Addr × Obj)} {us : List Value} {n : Nat} {x : Value} {Q : Value → Shared → Prop} (F : Fr h₀ L s.heap m) (N : News h₀ L s.heap news)
    (U : Upd D (listOf us.toArray n) (listOf (us ++ [x]).toArray (n + 1)) news news') (hz : us.length ≤ 1000) (h : ∀ h', Fr h₀ L h' m → News h₀ L h' news' → Q .none { s with heap := h' }) :
    wpAny (model prog w) A (call (.builtin "list.append") [.ref D, x]) Q E s :=
  append_K F N (by rw [List.push_toArray]; exact U) h (by rw [sizeLine_eq, List.size_toArray]; omega)
local macro_rules | `(tactic| walk_at "call builtin:list.append") => `(tactic| k_extra "my call builtin:list.append")
local macro_rules | `(tactic| k_all) => `(tactic| assumption)
theorem words19 : True := by
  k_with "my call builtin:list.append" => (first | ((k_here; (with_reducible show wpAny _ _ (call (Value.builtin _) [Value.ref _, Value.int _ _]) _ _ _); k_dflt (refine app_ints (by k_asm) (by k_asm) (by k_upd) (by assumption) ?_; k_whole); intro whzw wFzw wNzw; (try k_sweep))) | fail "no")
  k_with "my tail" => (first | ((intro wpw whpw; repeat (first | exact whpw | exact List.mem_append_left _ whpw | refine List.mem_cons_of_mem _ ?_))) | fail "no")
  k_with "my rows" => (first | (exact RowsIn.at (by assumption) (by k_asm) (by walk_at "my tail")) | fail "no")
  trivial

theorem inc_take {xs : List Int} (inc : Inc xs) {i : Nat} {k : Int} (hk : xs[i]? = some k) : Inc (xs.take i) ∧ ∀ y ∈ xs.take i, y < k := by
  refine ⟨List.Pairwise.sublist (List.take_sublist _ _) inc, fun y hy => ?_⟩
  obtain ⟨j, hj, rfl⟩ := List.mem_iff_getElem.mp hy
  obtain ⟨hi, rfl⟩ := List.getElem?_eq_some_iff.mp hk
  rw [List.getElem_take]
  simp only [List.length_take] at hj
  exact List.pairwise_iff_getElem.mp inc j i (by omega) hi (by omega)
local macro_rules | `(tactic| walk_at "pyIter ref") => `(tactic| k_dflt (k_extra "my loop"))
local macro_rules | `(tactic| walk_at "exec While BoolOp cons nil") => `(tactic| k_dflt (k_extra "my while"))
theorem words20 : True := by
  k_with "my sub2" => (first | (((repeat (refine List.forall_mem_cons.mpr ⟨by k_mem, ?_⟩)); walk_at "my tail")) | fail "no")
  trivial
set_option maxHeartbeats 8000000 in
theorem law_walk_con (w : World) (bw : Bool) (rl lt ht : Addr) (us : List Value) (xs : List Int) (lo : Int) (tlo : Tok) (li : Bool) (nlo : Nat) (hi : Int) (thi : Tok) (hii : Bool) (nhi : Nat) :
    Con w 537 6 64 [.ref rl, .bool bw, .ref lt, .ref ht] [] (fun h => h.IsList rl us.toArray ∧ IntsAre us xs ∧ Inc xs ∧ xs.length ≤ 900 ∧ h.get? lt = some (pairOf lo tlo li nlo) ∧ h.get? ht = some (pairOf hi thi hii nhi))
      (PNew [] (fun v new => ∃ D us' n', v = .ref D ∧ new = [(D, listOf (List.toArray us') n')] ∧ IntsAre us' (if bw then walkOf true xs hi hii lo li else walkOf false xs lo li hi hii))) := by
  intro loose mean mg mb dp un gd cn cs aa ccd cl outer A₀ base h₀ L m s Q E ⟨B, F, X, N, T, k, hd, hu⟩ ⟨hl, hin, inc, hlen, hlt, hht⟩ hret
  refine wpAny_call ?_
  k_dflt (walk_at "my enter")
  rename Kept _ _ _ => KG
  have hlg := hl.at fun o e => KG _ _ e (fun h => nomatch h)
  have hltg := KG _ _ hlt (fun h => nomatch h)
  have hhtg := KG _ _ hht (fun h => nomatch h)
  have hlen' : xs.length ≤ 1000 := by omega
  clear hl hlt hht
  cases bw
  · k_with "my loop" => ((rename Fr _ _ _ _ => lF'); (rename News _ _ _ _ => lN'); (with_unfolding_all refine' ins_loop (P := w.params) (xs := xs) (us := us) ?hh ?hl ?hi lF' lN' ?hs ?turn ?done); (case hh => rfl); (case hl => assumption); (case hi => assumption); (case hs => walk_at "my sub"); (clear lF' lN'); (case' turn => (intro i k t vs n tups own h tk hk R o1 o2 o3 o4 F' N'; (try dsimp only at F'); (have hk1 := (inc_take inc hk).1; have hk2 := (inc_take inc hk).2; have hk3 : (xs.take i).length ≤ 900 := (by rw [List.length_take]; omega)))); (case' done => (intro u vs n tups h tk R o1 o2 o3 o4 F' N')); (all_goals (try k_fold)))
    k_with "my while" => ((rename Fr _ _ _ _ => lF'); (rename News _ _ _ _ => lN'); (with_unfolding_all refine' walk_loop (v := Str.ofString "is_there") (P := w.params) (tups := tups) (vs := vs) (n := n) (xs := xs) (fs₀ := []) (us₀ := []) (q := fun r => !pastB false hii r hi) (spec := walkOf false xs lo li hi hii) lF' lN' ?whs ?whv ?wW ?wI ?wturn); (case whs => walk_at "my sub2"); (case whv => rfl); (case wW => exact winv_start false xs lo li hi hii); (case wI => exact .nil); (clear lF' lN'); (case' wturn => (intro p tp fs us' nf h tk W I hus F' N'; have hus2 : us'.length ≤ 1000 := Nat.le_trans hus (Nat.le_trans walk_len (by omega)))); (all_goals (try k_fold)))
    k_steps
    · refine hret _ _ _ _ (by assumption) (by assumption) (Kept.trans (by assumption) (Fr.keep (by assumption))) (fresh_of (by assumption) (by assumption)) ⟨[(_, listOf us'.toArray nf)], ⟨_, us', nf, rfl, rfl, end_past W I (by assumption) (by assumption)⟩, (fun _ h => nomatch h), ?_, (fun _ _ h => nomatch h)⟩
      exact List.forall_mem_cons.mpr ⟨.tail _ (.tail _ (.tail _ (.head _))), List.forall_mem_nil _⟩
    · exact ⟨rfl, _, _, _, _, _, _, _, _, rfl, by assumption, (fun z hz => by simp only [if_neg hz]), rfl, by assumption, (winv_step W (by omega) (by omega) (congrArg (! ·) (by assumption)) (by with_unfolding_all assumption)).1, IntsAre.append I (.cons _ _ .nil), (winv_step W (by omega) (by omega) (congrArg (! ·) (by assumption)) (by with_unfolding_all assumption)).2⟩
    · refine hret _ _ _ _ (by assumption) (by assumption) (Kept.trans (by assumption) (Fr.keep (by assumption))) (fresh_of (by assumption) (by assumption)) ⟨[(_, listOf us'.toArray nf)], ⟨_, us', nf, rfl, rfl, end_out W I (by assumption)⟩, (fun _ h => nomatch h), ?_, (fun _ _ h => nomatch h)⟩
      exact List.forall_mem_cons.mpr ⟨.tail _ (.tail _ (.tail _ (.head _))), List.forall_mem_nil _⟩
    · exact ins_end (by assumption) (fun z hz => if_neg hz) (by assumption) (by assumption)
    skip
  · k_with "my loop" => ((rename Fr _ _ _ _ => lF'); (rename News _ _ _ _ => lN'); (with_unfolding_all refine' ins_loop (P := w.params) (xs := xs) (us := us) ?hhb ?hlb ?hib lF' lN' ?hsb ?turnb ?doneb); (case hhb => rfl); (case hlb => assumption); (case hib => assumption); (case hsb => walk_at "my sub"); (clear lF' lN'); (case' turnb => (intro i k t vs n tups own h tk hk R o1 o2 o3 o4 F' N'; (try dsimp only at F'); (have hk1 := (inc_take inc hk).1; have hk2 := (inc_take inc hk).2; have hk3 : (xs.take i).length ≤ 900 := (by rw [List.length_take]; omega)))); (case' doneb => (intro u vs n tups h tk R o1 o2 o3 o4 F' N')); (all_goals (try k_fold)))
    k_with "my while" => ((rename Fr _ _ _ _ => lF'); (rename News _ _ _ _ => lN'); (with_unfolding_all refine' walk_loop (v := Str.ofString "is_there") (P := w.params) (tups := tups) (vs := vs) (n := n) (xs := xs) (fs₀ := []) (us₀ := []) (q := fun r => !pastB true li r lo) (spec := walkOf true xs hi hii lo li) lF' lN' ?whsb ?whvb ?wWb ?wIb ?wturnb); (case whsb => walk_at "my sub2"); (case whvb => rfl); (case wWb => exact winv_start true xs hi hii lo li); (case wIb => exact .nil); (clear lF' lN'); (case' wturnb => (intro p tp fs us' nf h tk W I hus F' N'; have hus2 : us'.length ≤ 1000 := Nat.le_trans hus (Nat.le_trans walk_len (by omega)))); (all_goals (try k_fold)))
    k_steps
    · refine hret _ _ _ _ (by assumption) (by assumption) (Kept.trans (by assumption) (Fr.keep (by assumption))) (fresh_of (by assumption) (by assumption)) ⟨[(_, listOf us'.toArray nf)], ⟨_, us', nf, rfl, rfl, end_past W I (by assumption) (by assumption)⟩, (fun _ h => nomatch h), ?_, (fun _ _ h => nomatch h)⟩
      exact List.forall_mem_cons.mpr ⟨.tail _ (.tail _ (.tail _ (.head _))), List.forall_mem_nil _⟩
    · exact ⟨rfl, _, _, _, _, _, _, _, _, rfl, by assumption, (fun z hz => by simp only [if_neg hz]), rfl, by assumption, (winv_step W (by omega) (by omega) (congrArg (! ·) (by assumption)) (by with_unfolding_all assumption)).1, IntsAre.append I (.cons _ _ .nil), (winv_step W (by omega) (by omega) (congrArg (! ·) (by assumption)) (by with_unfolding_all assumption)).2⟩
    · refine hret _ _ _ _ (by assumption) (by assumption) (Kept.trans (by assumption) (Fr.keep (by assumption))) (fresh_of (by assumption) (by assumption)) ⟨[(_, listOf us'.toArray nf)], ⟨_, us', nf, rfl, rfl, end_out W I (by assumption)⟩, (fun _ h => nomatch h), ?_, (fun _ _ h => nomatch h)⟩
      exact List.forall_mem_cons.mpr ⟨.tail _ (.tail _ (.tail _ (.head _))), List.forall_mem_nil _⟩
    · exact ins_end (by assumption) (fun z hz => if_neg hz) (by assumption) (by assumption)
    k_with_none
theorem words21 : True := by
  k_with "my lt" => (first | (with_reducible first | exact And.left (by assumption) | exact (by assumption) | exact And.left (And.right (by assumption)) | exact (And.right (by assumption)) | exact And.left (And.right (And.right (by assumption))) | exact (And.right (And.right (by assumption))) | exact And.left (And.right (And.right (And.right (by assumption)))) | exact (And.right (And.right (And.right (by assumption)))) | exact And.left (And.right (And.right (And.right (And.right (by assumption))))) | exact (And.right (And.right (And.right (And.right (by assumption))))) | exact And.left (And.right (And.right (And.right (And.right (And.right (by assumption)))))) | exact (And.right (And.right (And.right (And.right (And.right (by assumption)))))) | exact And.left (And.right (And.right (And.right (And.right (And.right (And.right (by assumption))))))) | exact (And.right (And.right (And.right (And.right (And.right (And.right (by assumption))))))) | exact And.left (And.right (And.right (And.right (And.right (And.right (And.right (And.right (by assumption)))))))) | exact (And.right (And.right (And.right (And.right (And.right (And.right (And.right (by assumption)))))))) | exact And.left (And.right (And.right (And.right (And.right (And.right (And.right (And.right (And.right (by assumption))))))))) | exact (And.right (And.right (And.right (And.right (And.right (And.right (And.right (And.right (by assumption))))))))) | exact And.left (And.right (And.right (And.right (And.right (And.right (And.right (And.right (And.right (And.right (by assumption)))))))))) | exact (And.right (And.right (And.right (And.right (And.right (And.right (And.right (And.right (And.right (by assumption)))))))))) | exact And.left (And.right (And.right (And.right (And.right (And.right (And.right (And.right (And.right (And.right (And.right (by assumption))))))))))) | exact (And.right (And.right (And.right (And.right (And.right (And.right (And.right (And.right (And.right (And.right (by assumption))))))))))) | exact And.left (And.right (And.right (And.right (And.right (And.right (And.right (And.right (And.right (And.right (And.right (And.right (by assumption)))))))))))) | exact (And.right (And.right (And.right (And.right (And.right (And.right (And.right (And.right (And.right (And.right (And.right (by assumption)))))))))))) | exact And.left (And.right (And.right (And.right (And.right (And.right (And.right (And.right (And.right (And.right (And.right (And.right (And.right (by assumption))))))))))))) | exact (And.right (And.right (And.right (And.right (And.right (And.right (And.right (And.right (And.right (And.right (And.right (And.right (by assumption))))))))))))) | exact And.left (And.right (And.right (And.right (And.right (And.right (And.right (And.right (And.right (And.right (And.right (And.right (And.right (And.right (by assumption)))))))))))))) | exact (And.right (And.right (And.right (And.right (And.right (And.right (And.right (And.right (And.right (And.right (And.right (And.right (And.right (by assumption)))))))))))))) | exact And.left (And.right (And.right (And.right (And.right (And.right (And.right (And.right (And.right (And.right (And.right (And.right (And.right (And.right (And.right (by assumption))))))))))))))) | exact (And.right (And.right (And.right (And.right (And.right (And.right (And.right (And.right (And.right (And.right (And.right (And.right (And.right (And.right (by assumption))))))))))))))) | exact And.left (And.right (And.right (And.right (And.right (And.right (And.right (And.right (And.right (And.right (And.right (And.right (And.right (And.right (And.right (And.right (by assumption)))))))))))))))) | exact (And.right (And.right (And.right (And.right (And.right (And.right (And.right (And.right (And.right (And.right (And.right (And.right (And.right (And.right (And.right (by assumption)))))))))))))))) | exact And.left (And.right (And.right (And.right (And.right (And.right (And.right (And.right (And.right (And.right (And.right (And.right (And.right (And.right (And.right (And.right (And.right (by assumption))))))))))))))))) | exact (And.right (And.right (And.right (And.right (And.right (And.right (And.right (And.right (And.right (And.right (And.right (And.right (And.right (And.right (And.right (And.right (by assumption))))))))))))))))) | exact And.left (And.right (And.right (And.right (And.right (And.right (And.right (And.right (And.right (And.right (And.right (And.right (And.right (And.right (And.right (And.right (And.right (And.right (by assumption)))))))))))))))))) | exact (And.right (And.right (And.right (And.right (And.right (And.right (And.right (And.right (And.right (And.right (And.right (And.right (And.right (And.right (And.right (And.right (And.right (by assumption)))))))))))))))))) | exact And.left (And.right (And.right (And.right (And.right (And.right (And.right (And.right (And.right (And.right (And.right (And.right (And.right (And.right (And.right (And.right (And.right (And.right (And.right (by assumption))))))))))))))))))) | exact (And.right (And.right (And.right (And.right (And.right (And.right (And.right (And.right (And.right (And.right (And.right (And.right (And.right (And.right (And.right (And.right (And.right (And.right (by assumption))))))))))))))))))) | exact And.left (And.right (And.right (And.right (And.right (And.right (And.right (And.right (And.right (And.right (And.right (And.right (And.right (And.right (And.right (And.right (And.right (And.right (And.right (And.right (by assumption)))))))))))))))))))) | exact (And.right (And.right (And.right (And.right (And.right (And.right (And.right (And.right (And.right (And.right (And.right (And.right (And.right (And.right (And.right (And.right (And.right (And.right (And.right (by assumption)))))))))))))))))))) | exact And.left (And.right (And.right (And.right (And.right (And.right (And.right (And.right (And.right (And.right (And.right (And.right (And.right (And.right (And.right (And.right (And.right (And.right (And.right (And.right (And.right (by assumption))))))))))))))))))))) | exact And.left (And.right (And.right (And.right (And.right (And.right (And.right (And.right (And.right (And.right (And.right (And.right (And.right (And.right (And.right (And.right (And.right (And.right (And.right (And.right (And.right (And.right (by assumption)))))))))))))))))))))) | exact And.left (And.right (And.right (And.right (And.right (And.right (And.right (And.right (And.right (And.right (And.right (And.right (And.right (And.right (And.right (And.right (And.right (And.right (And.right (And.right (And.right (And.right (And.right (by assumption))))))))))))))))))))))) | exact And.left (And.right (And.right (And.right (And.right (And.right (And.right (And.right (And.right (And.right (And.right (And.right (And.right (And.right (And.right (And.right (And.right (And.right (And.right (And.right (And.right (And.right (And.right (And.right (by assumption)))))))))))))))))))))))) | exact And.left (And.right (And.right (And.right (And.right (And.right (And.right (And.right (And.right (And.right (And.right (And.right (And.right (And.right (And.right (And.right (And.right (And.right (And.right (And.right (And.right (And.right (And.right (And.right (And.right (by assumption))))))))))))))))))))))))) | exact And.left (And.right (And.right (And.right (And.right (And.right (And.right (And.right (And.right (And.right (And.right (And.right (And.right (And.right (And.right (And.right (And.right (And.right (And.right (And.right (And.right (And.right (And.right (And.right (And.right (And.right (by assumption)))))))))))))))))))))))))) | exact And.left (And.right (And.right (And.right (And.right (And.right (And.right (And.right (And.right (And.right (And.right (And.right (And.right (And.right (And.right (And.right (And.right (And.right (And.right (And.right (And.right (And.right (And.right (And.right (And.right (And.right (And.right (by assumption))))))))))))))))))))))))))) | exact And.left (And.right (And.right (And.right (And.right (And.right (And.right (And.right (And.right (And.right (And.right (And.right (And.right (And.right (And.right (And.right (And.right (And.right (And.right (And.right (And.right (And.right (And.right (And.right (And.right (And.right (And.right (And.right (by assumption)))))))))))))))))))))))))))) | exact And.left (And.right (And.right (And.right (And.right (And.right (And.right (And.right (And.right (And.right (And.right (And.right (And.right (And.right (And.right (And.right (And.right (And.right (And.right (And.right (And.right (And.right (And.right (And.right (And.right (And.right (And.right (And.right (And.right (by assumption))))))))))))))))))))))))))))) | exact And.left (And.right (And.right (And.right (And.right (And.right (And.right (And.right (And.right (And.right (And.right (And.right (And.right (And.right (And.right (And.right (And.right (And.right (And.right (And.right (And.right (And.right (And.right (And.right (And.right (And.right (And.right (And.right (And.right (And.right (by assumption))))))))))))))))))))))))))))))) | fail "no")
  k_with "my k_ne" => (first | ((refine neN ?_; (try dsimp only); first | (refine Nat.ne_of_lt ?_; walk_at "my lt") | (refine Nat.ne_of_gt ?_; walk_at "my lt") | walk_at "my lt" | (refine Ne.symm ?_; walk_at "my lt") | omega)) | fail "no")
  k_with "my binds" => (first | (first | exact BindsTo.of_eq (binds := [(_, _)]) rfl | exact BindsTo.of_eq (binds := [(_, _), (_, _)]) rfl | exact BindsTo.of_eq (binds := [(_, _), (_, _), (_, _)]) rfl | exact BindsTo.of_eq (binds := [(_, _), (_, _), (_, _), (_, _)]) rfl | exact BindsTo.of_eq rfl) | fail "no")
  k_with "my call ref" => (first | ((k_here; k_dflt (refine call_cls (by k_asm) (by k_asm) (by k_asm) (by k_is) (by k_is) (by k_is) ?_; k_whole; intro wxzw wdzw whzw wFzw wNzw wl1w wl2w; (try k_lt wl1w); (try k_lt2 wl2w); (try k_sweep)); k_dflt (walk_at "my nest"))) | fail "no")
  k_with "my sub" => (first | (repeat (first | exact List.forall_mem_nil _ | refine List.forall_mem_cons.mpr ⟨by k_mem, ?_⟩)) | fail "no")
  k_with "my call ref" => (first | ((k_here; (with_reducible show wpAny _ _ (call (Value.ref 509) _) _ _ _); k_dflt (refine use_upd (take_con _ _ _ _ _ _ _ _ _) ⟨(by k_asm), (by k_asm), (by k_asm), (by k_asm), (by k_asm), (by first | exact rfl | assumption), (by ktr_room), (by ktr_units)⟩ (by walk_at "my sub") (by k_updF) ⟨(by assumption), (by decide), (by decide)⟩ ?_; k_whole); (rintro wvzw wozw wnewzw whzw wtkzw wFzw wNzw - - ⟨we1w, wdzw, wtzw, wazw, wtazw, wbzw, wtbzw, wnzw, we2w, whd0w, whd1w, whsrcw, we3w⟩); subst we1w; subst we2w; subst we3w; (try simp only [List.nil_append] at wNzw); (try k_sweep))) | fail "no")
  k_with "my rows" => (first | (exact RowsAt.keep (by assumption) (Fr.keep (by k_asm))) | fail "no")
  k_with "my call builtin:len" => (first | ((k_here; (with_reducible show wpAny _ _ (call (Value.builtin "len") [Value.ref _]) _ _ _); k_dflt (refine rows_len (by k_asm) (by k_mem) (by assumption) (by omega) ?_; k_whole; intro wtzw wtkzw))) | fail "no")
  k_with "my arith" => (first | (first | omega | ((simp (disch := omega) only [Int.fdiv_eq_ediv_of_nonneg, Int.fmod_eq_emod_of_nonneg]); omega)) | fail "no")
  k_with "my call ref" => (first | ((k_here; (with_reducible show wpAny _ _ (call (Value.ref 178) _) _ _ _); k_dflt (refine use_new (place_con _ _ _ _ _ _ _ _ _ _ _ _ _ _) ⟨(by k_asm), (by k_asm), (by k_asm), (by k_asm), (by k_asm), (by first | exact rfl | assumption), (by ktr_room), (by ktr_units)⟩ (by walk_at "my sub") ⟨(by walk_at "my rows"), (by assumption), (by assumption)⟩ ?_; k_whole); (rintro wvzw wnewzw whzw wtkzw wFzw wNzw - - ⟨we1w, wtzw, we2w⟩); subst we1w; subst we2w; (try simp only [List.nil_append] at wNzw); (try k_sweep))) | fail "no")
  k_with "my call ref" => (first | ((k_here; (with_reducible show wpAny _ _ (call (Value.ref 262) _) _ _ _); k_dflt (refine use_new (valid_con _ _ _ _ _ _ _ _ _ _ _ _) ⟨(by k_asm), (by k_asm), (by k_asm), (by k_asm), (by k_asm), (by first | exact rfl | assumption), (by ktr_room), (by ktr_units)⟩ (by walk_at "my sub") ⟨(by walk_at "my rows"), (by assumption)⟩ ?_; k_whole); (rintro wvzw wnewzw whzw wtkzw wFzw wNzw - - ⟨we1w, we2w⟩); subst we1w; subst we2w; (try simp only [List.nil_append] at wNzw); (try k_sweep))) | fail "no")
  k_with "my tab post" => (first | (((rintro wvzw wozw wnewzw whzw wtkzw wFzw wNzw - - ⟨we1w, we2w, wtpzw, we3w⟩); subst we1w; subst we2w; subst we3w; (try simp only [List.nil_append] at wNzw); (try k_sweep))) | fail "no")
  k_with "my call ref" => (first | ((k_here; (with_reducible show wpAny _ _ (call (Value.ref 192) _) _ _ _); k_dflt (refine use_upd (stand_con _ _ _ _ _ _ _ _ _ _ _ _ _ _) ⟨(by k_asm), (by k_asm), (by k_asm), (by k_asm), (by k_asm), (by first | exact rfl | assumption), (by ktr_room), (by ktr_units)⟩ (by walk_at "my sub") (by k_updF) ⟨(by walk_at "my rows"), (by assumption)⟩ ?_; k_whole); walk_at "my tab post")) | fail "no")
  k_with "my call ref" => (first | ((k_here; (with_reducible show wpAny _ _ (call (Value.ref 234) _) _ _ _); k_dflt (refine use_upd (seek_ge_con _ _ _ _ _ _ _ _ _ _ _ _ _ _) ⟨(by k_asm), (by k_asm), (by k_asm), (by k_asm), (by k_asm), (by first | exact rfl | assumption), (by ktr_room), (by ktr_units)⟩ (by walk_at "my sub") (by k_updF) ⟨(by walk_at "my rows"), (by assumption), (by assumption)⟩ ?_; k_whole); walk_at "my tab post")) | fail "no")
  k_with "my call ref" => (first | ((k_here; (with_reducible show wpAny _ _ (call (Value.ref 241) _) _ _ _); k_dflt (refine use_upd (seek_gt_con _ _ _ _ _ _ _ _ _ _ _ _ _ _) ⟨(by k_asm), (by k_asm), (by k_asm), (by k_asm), (by k_asm), (by first | exact rfl | assumption), (by ktr_room), (by ktr_units)⟩ (by walk_at "my sub") (by k_updF) ⟨(by walk_at "my rows"), (by assumption), (by assumption)⟩ ?_; k_whole); walk_at "my tab post")) | fail "no")
  k_with "my call ref" => (first | ((k_here; (with_reducible show wpAny _ _ (call (Value.ref 248) _) _ _ _); k_dflt (refine use_upd (seek_le_con _ _ _ _ _ _ _ _ _ _ _ _ _ _) ⟨(by k_asm), (by k_asm), (by k_asm), (by k_asm), (by k_asm), (by first | exact rfl | assumption), (by ktr_room), (by ktr_units)⟩ (by walk_at "my sub") (by k_updF) ⟨(by walk_at "my rows"), (by assumption), (by assumption)⟩ ?_; k_whole); walk_at "my tab post")) | fail "no")
  k_with "my call ref" => (first | ((k_here; (with_reducible show wpAny _ _ (call (Value.ref 255) _) _ _ _); k_dflt (refine use_upd (seek_lt_con _ _ _ _ _ _ _ _ _ _ _ _ _ _) ⟨(by k_asm), (by k_asm), (by k_asm), (by k_asm), (by k_asm), (by first | exact rfl | assumption), (by ktr_room), (by ktr_units)⟩ (by walk_at "my sub") (by k_updF) ⟨(by walk_at "my rows"), (by assumption), (by assumption)⟩ ?_; k_whole); walk_at "my tab post")) | fail "no")
  k_with "my tab post2" => (first | (((rintro wvzw wozw wnewzw whzw wtkzw wFzw wNzw - - ⟨we1w, wpzw, whpzw, we2w, wtpzw, we3w⟩); subst we1w; subst we2w; subst we3w; (try simp only [List.nil_append] at wNzw); (try k_sweep))) | fail "no")
  k_with "my call ref" => (first | ((k_here; (with_reducible show wpAny _ _ (call (Value.ref 213) _) _ _ _); k_dflt (refine use_upd (next_con _ _ _ _ _ _ _ _ _ _ _ _) ⟨(by k_asm), (by k_asm), (by k_asm), (by k_asm), (by k_asm), (by first | exact rfl | assumption), (by ktr_room), (by ktr_units)⟩ (by walk_at "my sub") (by k_updF) ⟨(by walk_at "my rows"), (by assumption)⟩ ?_; k_whole); walk_at "my tab post2")) | fail "no")
  k_with "my tab post2" => (first | (((rintro wvzw wozw wnewzw whzw wtkzw wFzw wNzw - - ⟨we1w, wpzw, whpzw, we2w, wtpzw, we3w⟩); subst we1w; subst we2w; subst we3w; (try simp only [List.nil_append] at wNzw); (try k_sweep))) | fail "no")
  k_with "my call ref" => (first | ((k_here; (with_reducible show wpAny _ _ (call (Value.ref 220) _) _ _ _); k_dflt (refine use_upd (prev_con _ _ _ _ _ _ _ _ _ _ _ _) ⟨(by k_asm), (by k_asm), (by k_asm), (by k_asm), (by k_asm), (by first | exact rfl | assumption), (by ktr_room), (by ktr_units)⟩ (by walk_at "my sub") (by k_updF) ⟨(by walk_at "my rows"), (by assumption)⟩ ?_; k_whole); walk_at "my tab post2")) | fail "no")
  k_with "my call ref" => (first | ((k_here; (with_reducible show wpAny _ _ (call (Value.ref 269) _) _ _ _); k_dflt (refine use_new (ask_con _ _ _ _ _ _ _ _ _ _ _ _) ⟨(by k_asm), (by k_asm), (by k_asm), (by k_asm), (by k_asm), (by first | exact rfl | assumption), (by ktr_room), (by ktr_units)⟩ (by walk_at "my sub") ⟨(by walk_at "my rows"), (by assumption), (by omega), (by omega)⟩ ?_; k_whole); (rintro wvzw wnewzw whzw wtkzw wFzw wNzw - - ⟨we1w, we2w⟩); subst we1w; subst we2w; (try simp only [List.nil_append] at wNzw); (try k_sweep))) | fail "no")
  k_with "my call ref" => (first | ((k_here; (with_reducible show wpAny _ _ (call (Value.ref 276) _) _ _ _); k_dflt (refine use_new (rowid_con _ _ _ _ _ _ _ _ _ _ _ _) ⟨(by k_asm), (by k_asm), (by k_asm), (by k_asm), (by k_asm), (by first | exact rfl | assumption), (by ktr_room), (by ktr_units)⟩ (by walk_at "my sub") ⟨(by walk_at "my rows"), (by assumption), (by omega), (by omega)⟩ ?_; k_whole); (rintro wvzw wnewzw whzw wtkzw wFzw wNzw - - ⟨we1w, wtzw, we2w⟩); subst we1w; subst we2w; (try simp only [List.nil_append] at wNzw); (try k_sweep))) | fail "no")
  k_with "my call builtin:list.insert" => (first | ((k_here; (with_reducible show wpAny _ _ (call (Value.builtin _) [Value.ref _, Value.int _ _, _]) _ _ _); k_dflt (refine rows_ins (by k_asm) (by k_asm) (by k_upd) (by omega) (by omega) ?_; k_whole; intro whzw wFzw wNzw; (try k_sweep)))) | fail "no")
  k_with "my call ref" => (first | ((k_here; (with_reducible show wpAny _ _ (call (Value.ref 171) _) _ _ _); k_dflt (refine use_upd (insert_con _ _ _ _ _ _ _ _ _ _ _ _ _ _) ⟨(by k_asm), (by k_asm), (by k_asm), (by k_asm), (by k_asm), (by first | exact rfl | assumption), (by ktr_room), (by ktr_units)⟩ (by walk_at "my sub") (by k_updF) ⟨(by walk_at "my rows"), (by assumption), (by assumption), (by assumption)⟩ ?_; k_whole); (rintro wvzw wozw wnewzw whzw wtkzw wFzw wNzw - whneww ⟨we1w, wtazw, wttzw, wnnzw, wnzw, we2w, we3w⟩); subst we1w; subst we2w; subst we3w; (try simp only [List.nil_append, List.cons_append] at wNzw); (try k_sweep))) | fail "no")
  k_with "my call ref" => (first | ((k_here; (with_reducible show wpAny _ _ (call (Value.ref 28) _) _ _ _); k_dflt (refine use_new (seek_word_con _ _ _) ⟨(by k_asm), (by k_asm), (by k_asm), (by k_asm), (by k_asm), (by first | exact rfl | assumption), (by ktr_room), (by ktr_units)⟩ (by walk_at "my sub") (by trivial) ?_; k_whole); (rintro wvzw wnewzw whzw wtkzw wFzw wNzw - - ⟨we1w, wtzw, we2w⟩); subst we1w; subst we2w; (try simp only [List.nil_append] at wNzw); (try k_sweep))) | fail "no")
  k_with "my call ref" => (first | ((k_here; (with_reducible show wpAny _ _ (call (Value.ref 35) _) _ _ _); k_dflt (refine use_new (past_word_con _ _ _) ⟨(by k_asm), (by k_asm), (by k_asm), (by k_asm), (by k_asm), (by first | exact rfl | assumption), (by ktr_room), (by ktr_units)⟩ (by walk_at "my sub") (by trivial) ?_; k_whole); (rintro wvzw wnewzw whzw wtkzw wFzw wNzw - - ⟨we1w, wtzw, we2w⟩); subst we1w; subst we2w; (try simp only [List.nil_append] at wNzw); (try k_sweep))) | fail "no")
  k_with "my call ref" => (first | ((k_here; (with_reducible show wpAny _ _ (call (Value.ref 530) _) _ _ _); k_dflt (refine use_new (is_past_con _ _ _ _ _ _ _ _) ⟨(by k_asm), (by k_asm), (by k_asm), (by k_asm), (by k_asm), (by first | exact rfl | assumption), (by ktr_room), (by ktr_units)⟩ (by walk_at "my sub") (by trivial) ?_; k_whole); (rintro wvzw wnewzw whzw wtkzw wFzw wNzw - - ⟨we1w, we2w⟩); subst we1w; subst we2w; (try simp only [List.nil_append] at wNzw); (try k_sweep))) | fail "no")
  k_with "my call ref" => (first | ((k_here; (with_reducible show wpAny _ _ (call (Value.ref 523) _) _ _ _); k_dflt (refine use_upd (law_stand_con _ _ _ _ _ _ _ _ _ _ _ _ _ _ _ _ _) ⟨(by k_asm), (by k_asm), (by k_asm), (by k_asm), (by k_asm), (by first | exact rfl | assumption), (by ktr_room), (by ktr_units)⟩ (by walk_at "my sub") (by k_updF) ⟨(by walk_at "my rows"), (by assumption), (by assumption)⟩ ?_; k_whole); walk_at "my tab post")) | fail "no")
  k_with "my call builtin:list.append" => (first | ((k_here; (with_reducible show wpAny _ _ (call (Value.builtin _) [Value.ref _, Value.int _ _]) _ _ _); k_dflt (refine app_ints (by k_asm) (by k_asm) (by k_upd) (by assumption) ?_; k_whole); intro whzw wFzw wNzw; (try k_sweep))) | fail "no")
  k_with "my tail" => (first | ((intro wpw whpw; repeat (first | exact whpw | exact List.mem_append_left _ whpw | refine List.mem_cons_of_mem _ ?_))) | fail "no")
  k_with "my rows" => (first | (exact RowsIn.at (by assumption) (by k_asm) (by walk_at "my tail")) | fail "no")
  k_with "my sub2" => (first | (((repeat (refine List.forall_mem_cons.mpr ⟨by k_mem, ?_⟩)); walk_at "my tail")) | fail "no")
  trivial
def RisN (xs : Array Nat) : Prop := xs.toList.Pairwise (· < ·)
noncomputable def cntN (l : List Nat) (j : Nat) : Nat := (l.filter (fun x => decide (x < j))).length
theorem cntN_le (l : List Nat) (j : Nat) : cntN l j ≤ l.length := List.length_filter_le _ _
theorem cntN_lt {l : List Nat} {j : Nat} (inc : l.Pairwise (· < ·)) : ∀ {i : Nat}, i < l.length → (l.getD i 0 < j ↔ i < cntN l j) := by
  induction l with
  | nil => intro i h; exact absurd h (Nat.not_lt_zero _)
  | cons y ys ih =>
    obtain ⟨hy, hys⟩ := List.pairwise_cons.mp inc
    intro i h
    unfold cntN
    rw [List.filter_cons]
    by_cases hr : y < j
    · rw [if_pos (by simpa using hr)]
      cases i with
      | zero => simpa using hr
      | succ i =>
        have := ih hys (i := i) (by simpa using h)
        simp only [List.getD_cons_succ, List.length_cons, Nat.succ_lt_succ_iff]
        exact this
    · rw [if_neg (by simpa using hr)]
      have e : ys.filter (fun x => decide (x < j)) = [] := by
        rw [List.filter_eq_nil_iff]
        intro z hz
        have := hy z hz
        simp only [decide_eq_true_eq]
        omega
      rw [e]
      constructor
      · intro hlt
        exfalso
        cases i with
        | zero => exact hr (by simpa using hlt)
        | succ i =>
          have hi : i < ys.length := by simpa using h
          have hz := hy (ys.getD i 0) (by simp [List.getD, List.getElem?_eq_getElem hi])
          simp only [List.getD_cons_succ] at hlt
          omega
      · intro hlt; exact absurd hlt (Nat.not_lt_zero _)
theorem below_go {xs : Array Nat} {j : Nat} (inc : RisN xs) : ∀ (fuel lo hi : Nat), lo ≤ cntN xs.toList j → cntN xs.toList j ≤ hi → hi ≤ xs.size → hi - lo ≤ fuel → SetTable.below.go xs j fuel lo hi = cntN xs.toList j := by
  intro fuel
  induction fuel with
  | zero => intro lo hi h1 h2 _ h4; show lo = _; omega
  | succ f ih =>
    intro lo hi h1 h2 h3 h4
    show (if lo < hi then (if xs.getD ((lo + hi) / 2) j < j then SetTable.below.go xs j f ((lo + hi) / 2 + 1) hi else SetTable.below.go xs j f lo ((lo + hi) / 2)) else lo) = _
    by_cases hlt : lo < hi
    · rw [if_pos hlt]
      have hm : (lo + hi) / 2 < xs.size := by omega
      have hm' : (lo + hi) / 2 < xs.toList.length := by simpa using hm
      have hg : xs.getD ((lo + hi) / 2) j = xs.toList.getD ((lo + hi) / 2) 0 := by
        simp [Array.getD, hm, List.getD, List.getElem?_eq_getElem hm']
      have hc := cntN_lt inc (j := j) hm'
      by_cases hx : xs.getD ((lo + hi) / 2) j < j
      · rw [if_pos hx]
        rw [hg, hc] at hx
        exact ih _ _ (by omega) h2 h3 (by omega)
      · rw [if_neg hx]
        rw [hg, hc] at hx
        exact ih _ _ h1 (by omega) (by omega) (by omega)
    · rw [if_neg hlt]; omega
theorem below_is {xs : Array Nat} {j : Nat} (inc : RisN xs) : SetTable.below xs j = cntN xs.toList j := by
  have h := cntN_le xs.toList j
  exact below_go inc _ _ _ (Nat.zero_le _) (by simpa using h) (Nat.le_refl _) (by omega)
/-- a slot of the table: its place is where the slots below it end -/
theorem cntN_at {l : List Nat} (inc : l.Pairwise (· < ·)) {i : Nat} (h : i < l.length) : cntN l l[i] = i := by
  have hg : ∀ {k : Nat} (hk : k < l.length), l.getD k 0 = l[k] := fun hk => by simp [List.getD, List.getElem?_eq_getElem hk]
  have h1 : ¬ i < cntN l l[i] := by rw [← cntN_lt inc h, hg h]; omega
  refine Nat.le_antisymm (Nat.not_lt.mp h1) ?_
  cases i with
  | zero => exact Nat.zero_le _
  | succ k =>
    have hk : k < l.length := by omega
    have : l.getD k 0 < l[k + 1] := by rw [hg hk]; exact List.pairwise_iff_getElem.mp inc k (k + 1) hk h (by omega)
    rw [cntN_lt inc hk] at this
    omega
theorem cntN_next {l : List Nat} (inc : l.Pairwise (· < ·)) {i : Nat} (h : i < l.length) : cntN l (l[i] + 1) = i + 1 := by
  have hg : ∀ {k : Nat} (hk : k < l.length), l.getD k 0 = l[k] := fun hk => by simp [List.getD, List.getElem?_eq_getElem hk]
  have h1 : i < cntN l (l[i] + 1) := by rw [← cntN_lt inc h, hg h]; omega
  refine Nat.le_antisymm ?_ h1
  rcases Nat.lt_or_ge (i + 1) l.length with h2 | h2
  · have h3 : ¬ i + 1 < cntN l (l[i] + 1) := by
      rw [← cntN_lt inc h2, hg h2]
      have := List.pairwise_iff_getElem.mp inc i (i + 1) h h2 (by omega)
      omega
    omega
  · have := cntN_le l (l[i] + 1); omega
theorem insertAt_ris {xs : Array Nat} {j : Nat} (inc : RisN xs) (hj : j ∉ xs.toList) : RisN (SetTable.insertAt xs (SetTable.below xs j) j) := by
  unfold RisN at *
  rw [SetTable.toList_insertAt, below_is inc]
  have hlo : ∀ x ∈ xs.toList.take (cntN xs.toList j), x < j := by
    intro x hx
    obtain ⟨i, hi, rfl⟩ := List.mem_iff_getElem.mp hx
    rw [List.getElem_take]
    simp only [List.length_take] at hi
    have hi' : i < xs.toList.length := by omega
    have := (cntN_lt inc (j := j) hi').mpr (by omega)
    simpa [List.getD, List.getElem?_eq_getElem hi'] using this
  have hhi : ∀ x ∈ xs.toList.drop (cntN xs.toList j), j < x := by
    intro x hx
    have hne : x ≠ j := fun e => hj (e ▸ List.mem_of_mem_drop hx)
    obtain ⟨i, hi, rfl⟩ := List.mem_iff_getElem.mp hx
    rw [List.getElem_drop] at hne ⊢
    simp only [List.length_drop] at hi
    have hi' : cntN xs.toList j + i < xs.toList.length := by omega
    have := mt (cntN_lt inc (j := j) hi').mp (by omega)
    have hg : xs.toList.getD (cntN xs.toList j + i) 0 = xs.toList[cntN xs.toList j + i] := by simp [List.getD, List.getElem?_eq_getElem hi']
    rw [hg] at this
    omega
  refine List.pairwise_append.mpr ⟨inc.sublist (List.take_sublist _ _), List.pairwise_cons.mpr ⟨hhi, inc.sublist (List.drop_sublist _ _)⟩, ?_⟩
  intro a ha b hb
  rcases List.mem_cons.mp hb with rfl | hb
  · exact hlo a ha
  · exact Nat.lt_trans (hlo a ha) (hhi b hb)
theorem slot_live {t : SetTable} {j : Nat} (inc : RisN t.place) (hj : j ∈ t.place.toList) : ∃ i, t.slot j = .live i := by
  obtain ⟨i, hi, e⟩ := List.mem_iff_getElem.mp hj
  unfold SetTable.slot
  have hb : SetTable.below t.place j = i := by rw [below_is inc, ← e, cntN_at inc hi]
  rw [hb]
  have : t.place[i]? = some j := by rw [← Array.getElem?_toList, List.getElem?_eq_getElem hi, e]
  exact ⟨i, by simp [this]⟩
theorem probe_go {t : SetTable} {f : Nat → Int} {h : Int} (inc : RisN t.place) : ∀ (fuel : Nat) (p : SetTable.Probe) {j : Nat} {dm : Option Nat}, (∀ d, p.dummy = some d → d ∉ t.place.toList) → SetTable.probe.go t f h fuel p = some (.empty j dm) → dm.getD j ∉ t.place.toList := by
  intro fuel
  induction fuel with
  | zero => intro p j dm _ e; cases e
  | succ n ih =>
    intro p j dm hd e
    have adv : ∀ q : SetTable.Probe, (t.advance q).dummy = q.dummy := by
      intro q; unfold SetTable.advance; split <;> rfl
    unfold SetTable.probe.go at e
    cases hs : t.slot p.j with
    | empty =>
      rw [hs] at e
      simp only [Option.some.injEq, SetTable.Met.empty.injEq] at e
      obtain ⟨rfl, rfl⟩ := e
      cases hdm : p.dummy with
      | none =>
        intro hm
        obtain ⟨i, hi⟩ := slot_live inc hm
        simp only [Option.getD_none] at hi
        rw [hs] at hi; cases hi
      | some d => exact hd d hdm
    | dummy =>
      rw [hs] at e
      refine ih _ ?_ e
      intro d hd'
      rw [adv] at hd'
      simp only [Option.some.injEq] at hd'
      subst hd'
      intro hm
      obtain ⟨i, hi⟩ := slot_live inc hm
      rw [hs] at hi; cases hi
    | live i =>
      rw [hs] at e
      dsimp only at e
      split at e
      · cases e
      · exact ih _ (by rw [adv]; exact hd) e
theorem freeSlot_new {t : SetTable} {h : Int} {slot : Nat} {b : Bool} (inc : RisN t.place) (e : t.freeSlot h = some (slot, b)) : slot ∉ t.place.toList := by
  unfold SetTable.freeSlot at e
  split at e
  · rename_i j dm hp
    simp only [Option.some.injEq, Prod.mk.injEq] at e
    obtain ⟨rfl, -⟩ := e
    exact probe_go inc _ _ (fun d hd => by cases hd) hp
  · cases e
theorem range_ris (n : Nat) : RisN (Array.range n) := by
  unfold RisN
  rw [Array.toList_range]
  exact List.pairwise_lt_range
/-- a table that leads: marked by its maker, its slots rising -/
structure Led (t : SetTable) : Prop where
  led : t.led = true
  ris : RisN t.place
theorem Led.standIn {t : SetTable} (x : Led t) (n : Nat) : Led (t.standIn n) := ⟨x.led, range_ris n⟩
theorem Led.orStandIn {t : SetTable} (x : Led t) (n : Nat) : Led (t.orStandIn n) := by
  unfold SetTable.orStandIn; split
  · exact x
  · exact x.standIn n
theorem Led.layNew {t : SetTable} (x : Led t) (es : Array (Int × Value)) (h : Int) (v : Value) : Led (PySem.layNew t es h v).2.1 := by
  unfold PySem.layNew
  split
  · rename_i slot wd hs
    dsimp only
    refine Led.orStandIn (t := (t.put slot).1) ⟨x.led, ?_⟩ _
    exact insertAt_ris x.ris (freeSlot_new x.ris hs)
  · exact x.standIn _
theorem laid_led {mask finger moves : Nat} {led plain : Bool} {hs : Array Int} {t : SetTable} {o : Array Nat} (e : SetTable.laid mask finger moves led plain hs = some (t, o)) : t.led = led ∧ RisN t.place := by
  unfold SetTable.laid at e
  cases ho : SetTable.layClean mask hs with
  | none => rw [ho] at e; cases e
  | some owner =>
    rw [ho] at e
    simp only [Option.bind_eq_bind, Option.bind_some, Option.pure_def, Option.some.injEq, Prod.mk.injEq] at e
    obtain ⟨rfl, -⟩ := e
    refine ⟨rfl, ?_⟩
    unfold RisN
    dsimp only
    rw [List.map_filterMap]
    refine List.Pairwise.filterMap _ ?_ (List.pairwise_lt_range (n := mask + 1))
    intro a b hab x hx y hy
    cases ha : owner.getD a none with
    | none => rw [ha] at hx; simp at hx
    | some u =>
      cases hb : owner.getD b none with
      | none => rw [hb] at hy; simp at hy
      | some v =>
        rw [ha] at hx; rw [hb] at hy
        simp at hx hy
        omega
theorem Led.relayAll {t : SetTable} (x : Led t) (es : Array (Int × Value)) (wanted : Nat) : Led (PySem.relayAll t es wanted).2.1 := by
  unfold PySem.relayAll
  split
  · rename_i t' order hr
    dsimp only
    split
    · obtain ⟨a, b⟩ := laid_led hr
      exact ⟨a.trans x.led, b⟩
    · exact x.standIn _
  · exact x.standIn _
theorem nodup_len {l m : List Nat} (h : l.Nodup) (hs : ∀ x ∈ l, x ∈ m) : l.length ≤ m.length := by
  induction l generalizing m with
  | nil => exact Nat.zero_le _
  | cons a r ih =>
    obtain ⟨ha, hr⟩ := List.nodup_cons.mp h
    have hm := hs a (.head _)
    have := ih (m := m.erase a) hr fun x hx => (List.mem_erase_of_ne (fun e : x = a => ha (by rw [← e]; exact hx))).mpr (hs x (.tail _ hx))
    rw [List.length_erase_of_mem hm] at this
    have hp := List.length_pos_of_mem hm
    simp only [List.length_cons]
    omega
def SmallH (h : Int) : Prop := h = -2 ∨ (0 ≤ h ∧ h ≤ 9)
theorem SmallH.cases {h : Int} (x : SmallH h) : h = -2 ∨ h = 0 ∨ h = 1 ∨ h = 2 ∨ h = 3 ∨ h = 4 ∨ h = 5 ∨ h = 6 ∨ h = 7 ∨ h = 8 ∨ h = 9 := by
  rcases x with x | x <;> omega
noncomputable def vis (t : SetTable) : Nat → SetTable.Probe → List Nat
  | 0, _ => []
  | n + 1, p => p.j :: vis t n (t.advance p)
noncomputable def b7 : SetTable := SetTable.fresh 0 0 true
noncomputable def b31 : SetTable := { b7 with mask := 31 }
theorem adv_mask {t u : SetTable} (e : t.mask = u.mask) (p : SetTable.Probe) : t.advance p = u.advance p := by
  unfold SetTable.advance; rw [e]
theorem vis_mask {t u : SetTable} (e : t.mask = u.mask) : ∀ (n : Nat) (p : SetTable.Probe), vis t n p = vis u n p
  | 0, _ => rfl
  | n + 1, p => by unfold vis; rw [adv_mask e, vis_mask e n]
theorem start_mask {t u : SetTable} (e : t.mask = u.mask) (h : Int) : t.probeStart h = u.probeStart h := by
  unfold SetTable.probeStart; rw [e]
theorem slot_or {t : SetTable} (hd : t.dummies = #[]) (j : Nat) : t.slot j = .empty ∨ ∃ i, t.slot j = .live i ∧ j ∈ t.place.toList := by
  unfold SetTable.slot
  dsimp only
  split
  · rename_i hq
    refine .inr ⟨_, rfl, ?_⟩
    have := beq_iff_eq.mp hq
    rw [← Array.getElem?_toList] at this
    exact List.mem_of_getElem? this
  · refine .inl ?_
    rw [hd, if_neg]
    simp [SetTable.has]
theorem go_empty {t : SetTable} {f : Nat → Int} {h : Int} (hd : t.dummies = #[]) (hf : ∀ i, (f i == h) = false) : ∀ (n fuel : Nat) (p : SetTable.Probe), n ≤ fuel → p.dummy = none → (∃ j ∈ vis t n p, j ∉ t.place.toList) → ∃ j, SetTable.probe.go t f h fuel p = some (.empty j none)
  | 0, _, _, _, _, ⟨_, hj, _⟩ => nomatch hj
  | n + 1, 0, _, hn, _, _ => absurd hn (Nat.not_succ_le_zero _)
  | n + 1, fuel + 1, p, hn, hp, ⟨j, hj, hno⟩ => by
    have adv : (t.advance p).dummy = p.dummy := by unfold SetTable.advance; split <;> rfl
    unfold SetTable.probe.go
    rcases slot_or hd p.j with hs | ⟨i, hs, hm⟩
    · rw [hs, hp]; exact ⟨_, rfl⟩
    · rw [hs]
      dsimp only
      rw [hf i]
      simp only [Bool.false_eq_true, if_false]
      refine go_empty hd hf n fuel _ (Nat.le_of_succ_le_succ hn) (adv.trans hp) ⟨j, ?_, hno⟩
      rcases List.mem_cons.mp hj with rfl | hj
      · exact absurd hm hno
      · exact hj
theorem freeSlot_some {t : SetTable} {h : Int} (hd : t.dummies = #[]) (n : Nat) (hn : n ≤ 10 * SetTable.turns t.mask) (J : List Nat) (hJ : J.Nodup) (hv : ∀ x ∈ J, x ∈ vis t n (t.probeStart h)) (hl : t.place.size < J.length) : ∃ slot, t.freeSlot h = some (slot, false) := by
  have hex : ∃ j ∈ vis t n (t.probeStart h), j ∉ t.place.toList := by
    refine Classical.byContradiction fun hno => ?_
    have hall : ∀ x ∈ J, x ∈ t.place.toList := fun x hx => Classical.byContradiction fun hx2 => hno ⟨x, hv x hx, hx2⟩
    have := nodup_len hJ hall
    simp only [Array.length_toList] at this
    omega
  obtain ⟨j, hj⟩ := go_empty (f := fun _ => h + 1) (h := h) hd (fun _ => by simp; omega) n (10 * SetTable.turns t.mask) (t.probeStart h) hn rfl hex
  refine ⟨j, ?_⟩
  unfold SetTable.freeSlot SetTable.probe
  rw [hj]
  rfl
theorem vis7 {h : Int} (x : SmallH h) : ∀ j ∈ [0, 1, 2, 3, 4, 5, 6, 7], j ∈ vis b7 40 (b7.probeStart h) := by
  rcases x.cases with rfl | rfl | rfl | rfl | rfl | rfl | rfl | rfl | rfl | rfl | rfl <;> decide +kernel
theorem vis31 {h : Int} (x : SmallH h) : (vis b31 8 (b31.probeStart h)).Nodup ∧ (vis b31 8 (b31.probeStart h)).length = 8 := by
  rcases x.cases with rfl | rfl | rfl | rfl | rfl | rfl | rfl | rfl | rfl | rfl | rfl <;> decide +kernel
/-- a table as small ints leave it -/
structure TabOk (t : SetTable) (n : Nat) : Prop where
  led : t.led = true
  plain : t.plain = true
  ris : RisN t.place
  dum : t.dummies = #[]
  size : t.place.size = n
  mask : (t.mask = 7 ∧ n ≤ 4) ∨ (t.mask = 31 ∧ n ≤ 6)
theorem TabOk.free {t : SetTable} {n : Nat} (x : TabOk t n) (hn : n ≤ 5) {h : Int} (hh : SmallH h) : ∃ slot, t.freeSlot h = some (slot, false) := by
  rcases x.mask with ⟨m, hm⟩ | ⟨m, hm⟩
  · refine freeSlot_some x.dum 40 (by rw [m]; decide) [0, 1, 2, 3, 4, 5, 6, 7] (by decide) ?_ (by rw [x.size]; simp; omega)
    have em : t.mask = b7.mask := m
    rw [vis_mask em, start_mask em]
    exact vis7 hh
  · have em : t.mask = b31.mask := m
    obtain ⟨a, b⟩ := vis31 hh
    refine freeSlot_some x.dum 8 (by rw [m]; decide) (vis b31 8 (b31.probeStart h)) a ?_ (by rw [x.size, b]; omega)
    rw [vis_mask em, start_mask em]
    exact fun _ h => h
/-- the table with one more, before it is laid anew -/
structure TabOk1 (t : SetTable) (n : Nat) : Prop where
  led : t.led = true
  plain : t.plain = true
  ris : RisN t.place
  dum : t.dummies = #[]
  size : t.place.size = n
  mask : (t.mask = 7 ∧ n ≤ 5) ∨ (t.mask = 31 ∧ n ≤ 6)
theorem insertAt_size {α : Type} (xs : Array α) (p : Nat) (x : α) : (SetTable.insertAt xs p x).size = xs.size + 1 := by
  rw [← Array.length_toList, SetTable.toList_insertAt, ← Array.length_toList (xs := xs)]
  simp only [List.length_append, List.length_cons, List.length_take, List.length_drop]
  omega
theorem TabOk.layNew {t : SetTable} {n : Nat} (x : TabOk t n) (hn : n ≤ 5) {h : Int} (hh : SmallH h) (es : Array (Int × Value)) (hes : es.size = n) (v : Value) :
    TabOk1 (PySem.layNew t es h v).2.1 (n + 1) ∧ (PySem.layNew t es h v).2.2.1 = false := by
  obtain ⟨slot, hs⟩ := x.free hn hh
  unfold PySem.layNew
  rw [hs]
  dsimp only
  have hput : TabOk1 (t.put slot).1 (n + 1) := by
    refine ⟨x.led, x.plain, insertAt_ris x.ris (freeSlot_new x.ris hs), ?_, ?_, ?_⟩
    · show (if SetTable.has t.dummies slot then _ else t.dummies) = #[]
      rw [x.dum]; simp [SetTable.has]
    · show (SetTable.insertAt _ _ _).size = _
      rw [insertAt_size, x.size]
    · rcases x.mask with ⟨a, b⟩ | ⟨a, b⟩
      · exact .inl ⟨a, by omega⟩
      · exact .inr ⟨a, by omega⟩
  have hfit : (t.put slot).1.fits (SetTable.insertAt es (t.put slot).2 (h, v)).size = true := by
    rw [insertAt_size, hes]
    simp only [SetTable.fits, SetTable.fill, hput.size, hput.dum, beq_self_eq_true, Bool.true_and, decide_eq_true_eq]
    rcases hput.mask with ⟨a, b⟩ | ⟨a, b⟩ <;> (simp; omega)
  refine ⟨?_, rfl⟩
  unfold SetTable.orStandIn
  rw [if_pos hfit]
  exact hput
structure Own (owner : Array (Option Nat)) (k : Nat) : Prop where
  size : owner.size = 32
  perm : ((List.range 32).filterMap fun j => owner.getD j none).Perm (List.range k)
theorem fm_congr {α β : Type} {f g : α → Option β} : ∀ {l : List α}, (∀ x ∈ l, f x = g x) → l.filterMap f = l.filterMap g
  | [], _ => rfl
  | a :: r, h => by rw [List.filterMap_cons, List.filterMap_cons, h a (.head _), fm_congr fun x hx => h x (.tail _ hx)]
theorem own_getD {owner : Array (Option Nat)} {y : Nat} (hy : y < owner.size) (d : Option Nat) : owner.getD y d = owner[y] := by simp [Array.getD, hy]
theorem filterMap_set {f f' : Nat → Option Nat} {j k : Nat} : ∀ {l : List Nat}, l.Nodup → j ∈ l → f j = none → f' j = some k → (∀ x, x ≠ j → f' x = f x) → (l.filterMap f').Perm (k :: l.filterMap f)
  | a :: r, hn, hj, h1, h2, h3 => by
    obtain ⟨ha, hr⟩ := List.nodup_cons.mp hn
    by_cases e : a = j
    · subst e
      have hrest : r.filterMap f' = r.filterMap f := fm_congr fun x hx => h3 x fun q => ha (q ▸ hx)
      rw [List.filterMap_cons, List.filterMap_cons, h1, h2, hrest]
    · have hj' : j ∈ r := (List.mem_cons.mp hj).resolve_left (fun q => e q.symm)
      have ih := filterMap_set hr hj' h1 h2 h3
      rw [List.filterMap_cons, List.filterMap_cons, h3 a e]
      cases f a with
      | none => exact ih
      | some y => exact (List.Perm.cons y ih).trans (List.Perm.swap k y _)
theorem Own.set {owner : Array (Option Nat)} {k j : Nat} (x : Own owner k) (hj : j < 32) (hno : owner.getD j (some 0) = none) : Own (owner.setIfInBounds j (some k)) (k + 1) := by
  have hsz : j < owner.size := by rw [x.size]; exact hj
  refine ⟨by simp [x.size], ?_⟩
  have hp : ((List.range 32).filterMap fun i => (owner.setIfInBounds j (some k)).getD i none).Perm (k :: (List.range 32).filterMap fun i => owner.getD i none) := by
    refine filterMap_set (j := j) List.nodup_range (List.mem_range.mpr hj) ?_ ?_ ?_
    · simpa [Array.getD, hsz] using hno
    · simp [Array.getD, hsz]
    · intro y hy
      simp only [Array.getD, Array.size_setIfInBounds]
      split
      · rename_i hlt
        simp [Array.getElem_setIfInBounds, hlt, Ne.symm hy]
      · rfl
  have hr : List.range (k + 1) = List.range k ++ [k] := List.range_succ
  rw [hr]
  exact hp.trans ((List.Perm.cons k x.perm).trans (List.perm_append_singleton k _).symm)
theorem free_window {owner : Array (Option Nat)} {k i pt fuel : Nat} (x : Own owner k) (hk : k ≤ 9) (hi : i + 9 ≤ 31) (hsub : (List.range' i 10).Sublist (List.range 32)) :
    ∃ j, SetTable.layClean.free 31 owner (fuel + 1) i pt = some j ∧ j < 32 ∧ owner.getD j (some 0) = none := by
  have hw : SetTable.runEnd 31 i + 1 - i = 10 := by unfold SetTable.runEnd; rw [if_pos hi]; omega
  unfold SetTable.layClean.free
  rw [hw]
  cases hf : (List.range 10).find? fun k => (owner.getD (i + k) (some 0)).isNone with
  | some q =>
    have h1 := List.find?_some hf
    have h2 := List.mem_of_find?_eq_some hf
    have h3 := List.mem_range.mp h2
    exact ⟨i + q, rfl, by omega, Option.isNone_iff_eq_none.mp h1⟩
  | none =>
    exfalso
    have hall := List.find?_eq_none.mp hf
    have hlen : ((List.range' i 10).filterMap fun j => owner.getD j none).length = 10 := by
      have : ∀ l : List Nat, (∀ y ∈ l, ∃ z, owner.getD y none = some z) → (l.filterMap fun j => owner.getD j none).length = l.length := by
        intro l
        induction l with
        | nil => intro _; rfl
        | cons a r ih =>
          intro h
          obtain ⟨z, hz⟩ := h a (.head _)
          rw [List.filterMap_cons, hz]
          simp only [List.length_cons]
          rw [ih fun y hy => h y (.tail _ hy)]
      rw [this]
      · simp
      · intro y hy
        obtain ⟨hy1, hy2⟩ : i ≤ y ∧ y < i + 10 := by simpa [List.mem_range'_1] using hy
        have := hall (y - i) (List.mem_range.mpr (by omega))
        have e : i + (y - i) = y := by omega
        rw [e] at this
        have hsz : y < owner.size := by rw [x.size]; omega
        rw [own_getD hsz] at this ⊢
        cases hq : owner[y] with
        | none => rw [hq] at this; simp at this
        | some z => exact ⟨z, rfl⟩
    have hs := (hsub.filterMap fun j => owner.getD j none).length_le
    rw [hlen, x.perm.length_eq, List.length_range] at hs
    omega
theorem free_some {owner : Array (Option Nat)} {k : Nat} (x : Own owner k) (hk : k ≤ 9) {h : Int} (hh : SmallH h) :
    ∃ j, SetTable.layClean.free 31 owner (SetTable.turns 31) (SetTable.bits h % (31 + 1)) (SetTable.bits h) = some j ∧ j < 32 ∧ owner.getD j (some 0) = none := by
  have ht : SetTable.turns 31 = 44 + 1 + 1 := rfl
  rw [ht]
  rcases hh.cases with rfl | hh
  · have e1 : SetTable.bits (-2) % (31 + 1) = 30 := by decide +kernel
    rw [e1]
    unfold SetTable.layClean.free
    have e2 : SetTable.runEnd 31 30 + 1 - 30 = 1 := by decide
    rw [e2]
    cases hf : (List.range 1).find? fun k => (owner.getD (30 + k) (some 0)).isNone with
    | some q =>
      have h1 := List.find?_some hf
      have h3 := List.mem_range.mp (List.mem_of_find?_eq_some hf)
      exact ⟨30 + q, rfl, by omega, Option.isNone_iff_eq_none.mp h1⟩
    | none =>
      have e3 : (SetTable.leap 31 30 (SetTable.bits (-2))).1 = 22 := by decide +kernel
      have hw := free_window (i := 22) (pt := (SetTable.leap 31 30 (SetTable.bits (-2))).2) (fuel := 44) x hk (by decide) (by decide)
      dsimp only
      rw [e3]
      exact hw
  · rcases hh with rfl | rfl | rfl | rfl | rfl | rfl | rfl | rfl | rfl | rfl
    · exact free_window (i := 0) x hk (by decide) (by decide)
    · exact free_window (i := 1) x hk (by decide) (by decide)
    · exact free_window (i := 2) x hk (by decide) (by decide)
    · exact free_window (i := 3) x hk (by decide) (by decide)
    · exact free_window (i := 4) x hk (by decide) (by decide)
    · exact free_window (i := 5) x hk (by decide) (by decide)
    · exact free_window (i := 6) x hk (by decide) (by decide)
    · exact free_window (i := 7) x hk (by decide) (by decide)
    · exact free_window (i := 8) x hk (by decide) (by decide)
    · exact free_window (i := 9) x hk (by decide) (by decide)
theorem layClean_some {hs : Array Int} (hsm : ∀ h ∈ hs.toList, SmallH h) (hn : hs.size ≤ 9) : ∃ owner, SetTable.layClean 31 hs = some owner ∧ Own owner hs.size := by
  unfold SetTable.layClean
  rw [← Array.foldl_toList]
  have key : ∀ (l : List Int) (owner : Array (Option Nat)) (k : Nat), (∀ h ∈ l, SmallH h) → k + l.length ≤ 9 → Own owner k →
      ∃ owner', l.foldl (fun acc h => do
        let (owner, k) ← acc
        let j ← SetTable.layClean.free 31 owner (SetTable.turns 31) (SetTable.bits h % (31 + 1)) (SetTable.bits h)
        pure (owner.setIfInBounds j (some k), k + 1)) (some (owner, k)) = some (owner', k + l.length) ∧ Own owner' (k + l.length) := by
    intro l
    induction l with
    | nil => intro owner k _ _ x; exact ⟨owner, rfl, x⟩
    | cons a r ih =>
      intro owner k hsm hn x
      simp only [List.length_cons] at hn
      obtain ⟨j, hj, hlt, hno⟩ := free_some x (by omega) (hsm a (.head _))
      obtain ⟨o', e, y⟩ := ih (owner.setIfInBounds j (some k)) (k + 1) (fun h hh => hsm h (.tail _ hh)) (by omega) (x.set hlt hno)
      refine ⟨o', ?_, ?_⟩
      · rw [List.foldl_cons]
        simp only [Option.bind_eq_bind, Option.bind_some, hj, Option.pure_def]
        simp only [Option.bind_eq_bind, Option.pure_def] at e
        rw [e, List.length_cons]
        congr 2
        omega
      · rw [List.length_cons, show k + (r.length + 1) = k + 1 + r.length by omega]; exact y
  have x0 : Own (Array.replicate (31 + 1) none) 0 := by
    refine ⟨by simp, ?_⟩
    have : ((List.range 32).filterMap fun j => (Array.replicate (31 + 1) (none : Option Nat)).getD j none) = [] := by
      rw [List.filterMap_eq_nil_iff]
      intro a _
      simp [Array.getD]
    rw [this]; exact .rfl
  obtain ⟨o, e, y⟩ := key hs.toList _ 0 hsm (by simpa using hn) x0
  refine ⟨o, ?_, by simpa using y⟩
  rw [e]; rfl
theorem TabOk1.relay {t : SetTable} {n : Nat} (x : TabOk1 t n) (hn : n = 5) (es : Array (Int × Value)) (hes : es.size = n) (hsm : ∀ e ∈ es.toList, SmallH e.1) : TabOk (PySem.relayAll t es (SetTable.grown es.size)).2.1 n := by
  have hsz : SetTable.sizeAbove (SetTable.grown es.size) - 1 = 31 := by rw [hes, hn]; decide
  obtain ⟨owner, ho, y⟩ := layClean_some (hs := es.map (·.1)) (by
    intro h hh
    simp only [Array.toList_map, List.mem_map] at hh
    obtain ⟨e, he, rfl⟩ := hh
    exact hsm e he) (by simp [hes, hn])
  have hrel : ∃ t' order, t.relaid (es.map (·.1)) (SetTable.grown es.size) = some (t', order) ∧ t'.led = true ∧ t'.plain = true ∧ RisN t'.place ∧ t'.dummies = #[] ∧ t'.place.size = n ∧ t'.mask = 31 ∧ order.toList.Perm (List.range n) := by
    unfold SetTable.relaid
    rw [hsz]
    cases hl : SetTable.laid 31 t.finger (t.movedTo 31) t.led t.plain (es.map (·.1)) with
    | none =>
      exfalso
      unfold SetTable.laid at hl
      rw [ho] at hl
      cases hl
    | some q =>
      obtain ⟨t', order⟩ := q
      obtain ⟨h1, h2⟩ := laid_led hl
      unfold SetTable.laid at hl
      rw [ho] at hl
      simp only [Option.bind_eq_bind, Option.bind_some, Option.pure_def, Option.some.injEq, Prod.mk.injEq] at hl
      obtain ⟨rfl, rfl⟩ := hl
      have hord : ((List.range (31 + 1)).filterMap fun j => (owner.getD j none).map fun x => (j, x)).map (·.2) = (List.range 32).filterMap fun j => owner.getD j none := by
        rw [List.map_filterMap]
        refine fm_congr fun j _ => ?_
        cases owner.getD j none <;> rfl
      have hp : (((List.range (31 + 1)).filterMap fun j => (owner.getD j none).map fun x => (j, x)).map (·.2)).Perm (List.range n) := by
        rw [hord]
        have := y.perm
        simpa [hes] using this
      refine ⟨_, _, rfl, x.led, x.plain, h2, rfl, ?_, rfl, by simpa using hp⟩
      have := hp.length_eq
      simpa using this
  obtain ⟨t', order, hr, a1, a2, a3, a4, a5, a6, a7⟩ := hrel
  unfold PySem.relayAll
  rw [hr]
  dsimp only
  have hes' : (order.filterMap fun i => es[i]?).size = n := by
    rw [← Array.length_toList, Array.toList_filterMap, (a7.filterMap _).length_eq, ← hes]
    have := congrArg List.length (PySem.filterMap_getElem?_range es)
    simpa using this
  have hcov : coversAll order es.size = true := by
    simp only [coversAll, hes]
    exact List.isPerm_iff.mpr a7
  have hfit : t'.fits (order.filterMap fun i => es[i]?).size = true := by
    rw [hes']
    simp only [SetTable.fits, SetTable.fill, a5, a4, a6, beq_self_eq_true, Bool.true_and, decide_eq_true_eq, hn]
    decide
  rw [if_pos (by rw [hcov, hfit]; rfl)]
  exact ⟨a1, a2, a3, a4, a5, .inr ⟨a6, by omega⟩⟩
def ByText (w : World) : Prop := w.params.followText "set-order" = true
noncomputable def keyOf : Value → Int
  | .int k _ => k
  | _ => 0
noncomputable def keysOf (es : Array (Int × Value)) : List Int := es.toList.map fun e => keyOf e.2
def SetS (prog : Program) (w : World) (h : Heap) (a : Addr) (ks : List Int) : Prop :=
  ∃ o es ep t, h.get? a = some o ∧ o.ExactSet ∧ o.data = .set es ep t ∧ ElemsOf (intKind prog w) es.toList ∧ (keysOf es).Perm ks ∧ t.fits es.size = true ∧ (ByText w ∨ TabOk t es.size)
theorem keysOf_len (es : Array (Int × Value)) : (keysOf es).length = es.size := by simp [keysOf]
theorem SetS.at {prog : Program} {w : World} {h h' : Heap} {a : Addr} {ks : List Int} (x : SetS prog w h a ks) (k : ∀ o, h.get? a = some o → h'.get? a = some o) : SetS prog w h' a ks :=
  let ⟨o, es, ep, t, ho, r⟩ := x; ⟨o, es, ep, t, k _ ho, r⟩
theorem hash_small {k : Int} (h0 : -2 ≤ k) (h1 : k ≤ 9) : SmallH (hashInt k) := by
  have : k = -2 ∨ k = -1 ∨ k = 0 ∨ k = 1 ∨ k = 2 ∨ k = 3 ∨ k = 4 ∨ k = 5 ∨ k = 6 ∨ k = 7 ∨ k = 8 ∨ k = 9 := by omega
  rcases this with rfl | rfl | rfl | rfl | rfl | rfl | rfl | rfl | rfl | rfl | rfl | rfl <;> (unfold SmallH; decide +kernel)
theorem elem_int {prog : Program} {w : World} {es : List (Int × Value)} (x : ElemsOf (intKind prog w) es) {e : Int × Value} (he : e ∈ es) : ∃ t, e.2 = .int (keyOf e.2) t ∧ e.1 = hashInt (keyOf e.2) := by
  obtain ⟨⟨k, hk, hh⟩, _⟩ := x e he
  obtain ⟨t, ht⟩ := Value.isInt_shape hk
  refine ⟨t, ?_, ?_⟩
  · rw [ht]; rfl
  · rw [ht]; exact hh
theorem elem_find {prog : Program} {w : World} {es : List (Int × Value)} (x : ElemsOf (intKind prog w) es) (k : Int) : (es.findIdx? fun e => (intKind prog w).is k e.2) = none ↔ k ∉ es.map fun e => keyOf e.2 := by
  rw [List.findIdx?_eq_none_iff]
  constructor
  · intro h hm
    obtain ⟨e, he, rfl⟩ := List.mem_map.mp hm
    obtain ⟨t, h2, _⟩ := elem_int x he
    have := h e he
    rw [h2] at this
    have q : (intKind prog w).is (keyOf e.2) (.int (keyOf e.2) t) = true := intKind_is _ _ _ _
    exact Bool.noConfusion (q.symm.trans this)
  · intro h e he
    cases hq : (intKind prog w).is k e.2 with
    | false => rfl
    | true =>
      exfalso
      obtain ⟨t, ht⟩ := Value.isInt_shape hq
      exact h (List.mem_map.mpr ⟨e, he, by rw [ht]; rfl⟩)
theorem fits_line {n : Nat} (h : n ≤ 100) : n ≤ sizeLine := by rw [sizeLine_eq]; omega

section
variable {prog : Program} {w : World} {A : Around} {E : Value → Shared → Prop} {s : Shared}
theorem set_tail {g : Bool → Sem Unit} (hg : ∀ (b : Bool) (s₁ : Shared) (Q' : Unit → Shared → Prop), Q' () s₁ → wpAny (model prog w) A (g b) Q' E s₁)
    {a : Addr} {o : Obj} {es es1 : Array (Int × Value)} {ep : Nat} {t t1 : SetTable} {ks1 : List Int} {wasDummy : Bool} {R : Option Bool → Shared → Prop} (ho : s.heap.get? a = some o) (hex : o.ExactSet) (hd : o.data = .set es ep t)
    (hel1 : ElemsOf (intKind prog w) es1.toList) (hk1 : (keysOf es1).Perm ks1) (hsm1 : ∀ e ∈ es1.toList, SmallH e.1) (hz : es1.size ≤ 6) (hfits : t1.fits es1.size = true) (hT1 : ByText w ∨ (TabOk1 t1 es1.size ∧ wasDummy = false))
    (h : ∀ h', Heap.SameBut a s.heap h' → SetS prog w h' a ks1 → R (some true) { s with heap := h' }) :
    wpAny (model prog w) A (do
        storeSet a es1 t1
        if (!wasDummy && t1.tooFull) = true then do
            g (relayAll t1 es1 (SetTable.grown es1.size)).2.2
            storeSet a (relayAll t1 es1 (SetTable.grown es1.size)).1 (relayAll t1 es1 (SetTable.grown es1.size)).2.1
            pure (some true)
          else pure (some true)) R E s := by
  refine wpAny_bind (wpAny_storeSet_of ho hd ?_ (fits_line (by omega)))
  obtain ⟨ho1, _⟩ := SetOf_store (knd := intKind prog w) (S' := fun k' => (keysOf es1).contains k') ho hex hd hel1 (fun k' => by
    rw [List.contains_iff_mem]
    constructor
    · intro hm
      obtain ⟨e, he, rfl⟩ := List.mem_map.mp hm
      obtain ⟨t', h2, _⟩ := elem_int hel1 he
      refine ⟨e, he, ?_⟩
      rw [h2]; exact intKind_is _ _ _ _
    · rintro ⟨e, he, hp⟩
      obtain ⟨t', ht⟩ := Value.isInt_shape hp
      exact List.mem_map.mpr ⟨e, he, by rw [ht]; rfl⟩) (by unfold scanBound; omega) hfits
  have hsb1 := Heap.SameBut.update s.heap a (Obj.putSet es1 t1)
  split
  · rename_i hfull
    have hp := relayAll_perm t1 es1 (SetTable.grown es1.size)
    have hfr := relayAll_fits t1 es1 (SetTable.grown es1.size)
    have hT2 : ByText w ∨ TabOk (relayAll t1 es1 (SetTable.grown es1.size)).2.1 es1.size := by
      refine hT1.imp id fun x => ?_
      have hn5 : es1.size = 5 := by
        simp only [x.2, Bool.not_false, Bool.true_and] at hfull
        have hm := x.1.mask
        simp only [SetTable.tooFull, SetTable.fill, x.1.size, x.1.dum, List.size_toArray, List.length_nil, Nat.add_zero, ge_iff_le, decide_eq_true_eq] at hfull
        rcases hm with ⟨m1, m2⟩ | ⟨m1, m2⟩
        · rw [m1] at hfull; omega
        · rw [m1] at hfull; omega
      exact x.1.relay hn5 es1 rfl hsm1
    generalize hRl : relayAll t1 es1 (SetTable.grown es1.size) = Rl at hp hfr hT2 ⊢
    obtain ⟨es2, t3, gave2⟩ := Rl
    dsimp only at hp hfr hT2 ⊢
    have hsz2 : es2.size = es1.size := by rw [← Array.length_toList, hp.length_eq, Array.length_toList]
    refine wpAny_bind (hg _ _ _ ?_)
    refine wpAny_bind (wpAny_storeSet_of ho1 rfl ?_ (fits_line (by omega)))
    have hg2 : ((s.heap.update a (Obj.putSet es1 t1)).update a (Obj.putSet es2 t3)).get? a = some { o with data := .set es2 (ep + 1 + 1) t3 } := by
      have := Heap.get?_update_self (Obj.putSet es2 t3) ho1 (by rw [putSet_of es2 t3 rfl]; rfl)
      rw [putSet_of es2 t3 rfl] at this; exact this
    refine wpAny_pure (h _ (hsb1.trans (Heap.SameBut.update _ a _)) ⟨_, es2, _, t3, hg2, hex, rfl, hel1.perm hp, ?_, hfr, ?_⟩)
    · exact (hp.map fun e : Int × Value => keyOf e.2).trans hk1
    · rw [hsz2]; exact hT2
  · rename_i hfull
    refine wpAny_pure (h _ hsb1 ⟨_, es1, _, t1, ho1, hex, rfl, hel1, hk1, hfits, ?_⟩)
    refine hT1.imp id fun x => ⟨x.1.led, x.1.plain, x.1.ris, x.1.dum, x.1.size, ?_⟩
    simp only [x.2, Bool.not_false, Bool.true_and, SetTable.tooFull, SetTable.fill, x.1.size, x.1.dum, List.size_toArray, List.length_nil, Nat.add_zero, ge_iff_le, decide_eq_true_eq] at hfull
    rcases x.1.mask with ⟨m1, m2⟩ | ⟨m1, m2⟩
    · rw [m1] at hfull; exact .inl ⟨m1, by omega⟩
    · exact .inr ⟨m1, by omega⟩
theorem set_add {a : Addr} {ks : List Int} {k : Int} {tk : Tok} {Q : Bool → Shared → Prop} (hS : SetS prog w s.heap a ks) (hsm : ∀ x ∈ ks, -2 ≤ x ∧ x ≤ 9) (h0 : -2 ≤ k) (h1 : k ≤ 9) (hn : ks.length ≤ 5)
    (h : ∀ b h', Heap.SameBut a s.heap h' → SetS prog w h' a (if k ∈ ks then ks else ks ++ [k]) → Q b { s with heap := h' }) :
    wpAny (model prog w) A (setAddHashed a (.int k tk) (hashInt k)) Q E s := by
  obtain ⟨o, es, ep, t, ho, hex, hd, hel, hperm, hf, hT⟩ := hS
  have hkey : (intKind prog w).is k (.int k tk) = true := intKind_is _ _ _ _
  have hsz : es.size = ks.length := by rw [← keysOf_len, hperm.length_eq]
  have hb : es.size < scanBound := by unfold scanBound; omega
  have hmem : k ∈ keysOf es ↔ k ∈ ks := hperm.mem_iff
  have hhash : hashInt k = (intKind prog w).hash k := rfl
  unfold setAddHashed setAddHashedIn
  refine wpAny_holding (wpAny_bind (wpAny_setState_of ho hd hf ?_))
  dsimp only
  rw [byScan_of (knd := intKind prog w) rfl hb hel]
  simp only [↓reduceIte]
  unfold setAddByScan
  refine wpAny_bind ?_
  refine wpAny_bind (wpAny_rule ?_)
  rw [hhash]
  refine wpAny_bind (wpAny_setScan_of hkey ho hd hf hel ?_)
  have hfind := elem_find hel k
  cases hr : List.findIdx? (fun e => (intKind prog w).is k e.2) es.toList with
  | some j =>
    dsimp only
    have hin : k ∈ ks := by
      refine hmem.mp (Classical.byContradiction fun hno => ?_)
      rw [hfind.mpr hno] at hr; cases hr
    refine wpAny_pure (wpAny_pure ?_)
    have e : s = { s with heap := s.heap } := by cases s; rfl
    have := h false s.heap (Heap.SameBut.refl a s.heap) ⟨o, es, ep, t, ho, hex, hd, hel, by rw [if_pos hin]; exact hperm, hf, hT⟩
    rw [e]; exact this
  | none =>
    dsimp only
    have hno : k ∉ ks := fun hm => (hfind.mp hr) (hmem.mpr hm)
    have hgw : ∀ (b : Bool) {s₁ : Shared} {Q' : Unit → Shared → Prop}, Q' () s₁ → wpAny (model prog w) A (match b with | true => rule "set.scan.the-table-gave-way" | false => pure ()) Q' E s₁ :=
      fun b s₁ Q' hq => by cases b <;> first | exact wpAny_pure hq | exact wpAny_rule hq
    have hlp := layNew_perm t es ((intKind prog w).hash k) (.int k tk)
    have hfits := layNew_fits t es ((intKind prog w).hash k) (.int k tk)
    have hT1 : ByText w ∨ (TabOk1 (layNew t es ((intKind prog w).hash k) (.int k tk)).2.1 (es.size + 1) ∧ (layNew t es ((intKind prog w).hash k) (.int k tk)).2.2.1 = false) :=
      hT.imp id fun x => x.layNew (by omega) (hash_small h0 h1) es rfl _
    generalize hL : layNew t es ((intKind prog w).hash k) (.int k tk) = Lx at hlp hfits hT1 ⊢
    obtain ⟨es1, t1, wasDummy, gave⟩ := Lx
    dsimp only at hlp hfits hT1 ⊢
    rw [Array.toList_push] at hlp
    have hel1 : ElemsOf (intKind prog w) es1.toList := (hel.push hkey rfl).perm hlp
    have hsz1 : es1.size = es.size + 1 := by rw [← Array.length_toList, hlp.length_eq, List.length_append, Array.length_toList]; rfl
    have hk1 : (keysOf es1).Perm (ks ++ [k]) := by
      have : (keysOf es1).Perm (keysOf es ++ [k]) := by
        unfold keysOf
        have := hlp.map fun e : Int × Value => keyOf e.2
        rw [List.map_append] at this
        exact this
      exact this.trans (hperm.append_right _)
    have hsm1 : ∀ e ∈ es1.toList, SmallH e.1 := by
      intro e he
      obtain ⟨t', h2, h3⟩ := elem_int hel1 he
      have hk : keyOf e.2 ∈ ks ++ [k] := hk1.mem_iff.mp (List.mem_map.mpr ⟨e, he, rfl⟩)
      rw [h3]
      rcases List.mem_append.mp hk with hk | hk
      · exact hash_small (hsm _ hk).1 (hsm _ hk).2
      · rw [List.mem_singleton.mp hk]; exact hash_small h0 h1
    refine wpAny_bind (hgw _ ?_)
    have fin : ∀ h', Heap.SameBut a s.heap h' → SetS prog w h' a (ks ++ [k]) → Q true { s with heap := h' } := by
      intro h' hsb hS'
      exact h true h' hsb (by rw [if_neg hno]; exact hS')
    have hT3 : ByText w ∨ (TabOk1 t1 es1.size ∧ wasDummy = false) := by rw [hsz1]; exact hT1
    split
    · refine wpAny_bind ?_
      rw [hashByValue_scannable 8 rfl]
      refine wpAny_pure ?_
      simp only [plainKind, if_true]
      refine set_tail (ks1 := ks ++ [k]) (fun b s₁ Q' hq => ?_) ho hex hd hel1 hk1 hsm1 (by omega) hfits hT3 (fun h' hsb hS' => by dsimp only; exact wpAny_pure (fin h' hsb hS'))
      cases b <;> first | exact wpAny_pure hq | exact wpAny_rule hq
    · refine wpAny_bind (wpAny_pure ?_)
      simp only [if_true]
      refine set_tail (ks1 := ks ++ [k]) (fun b s₁ Q' hq => ?_) ho hex hd hel1 hk1 hsm1 (by omega) hfits hT3 (fun h' hsb hS' => by dsimp only; exact wpAny_pure (fin h' hsb hS'))
      cases b <;> first | exact wpAny_pure hq | exact wpAny_rule hq
end
noncomputable def ddStep (acc : List Int) (k : Int) : List Int := if k ∈ acc then acc else acc ++ [k]
noncomputable def ddl (ns : List Int) : List Int := ns.foldl ddStep []
theorem ddl_snoc (ns : List Int) (k : Int) : ddl (ns ++ [k]) = ddStep (ddl ns) k := by unfold ddl; rw [List.foldl_append]; rfl
theorem ddl_facts (ns : List Int) : (ddl ns).Nodup ∧ (∀ k, k ∈ ddl ns ↔ k ∈ ns) ∧ (ddl ns).length ≤ ns.length := by
  have key : ∀ l : List Int, (ddl l.reverse).Nodup ∧ (∀ k, k ∈ ddl l.reverse ↔ k ∈ l.reverse) ∧ (ddl l.reverse).length ≤ l.reverse.length := by
    intro l
    induction l with
    | nil => exact ⟨List.nodup_nil, fun _ => .rfl, Nat.le_refl _⟩
    | cons a r ih =>
      obtain ⟨h1, h2, h3⟩ := ih
      rw [List.reverse_cons, ddl_snoc]
      unfold ddStep
      by_cases h : a ∈ ddl r.reverse
      · rw [if_pos h]
        refine ⟨h1, fun k => ?_, by rw [List.length_append]; omega⟩
        rw [List.mem_append, h2 k, List.mem_singleton]
        constructor
        · exact .inl
        · rintro (hk | rfl)
          · exact hk
          · exact (h2 k).mp h
      · rw [if_neg h]
        refine ⟨?_, fun k => ?_, by rw [List.length_append, List.length_append]; simp only [List.length_singleton]; omega⟩
        · rw [List.nodup_append]
          refine ⟨h1, by simp, ?_⟩
          intro x hx y hy e
          rw [List.mem_singleton.mp hy] at e
          exact h (e ▸ hx)
        · rw [List.mem_append, List.mem_append, h2 k]
  have := key ns.reverse
  rwa [List.reverse_reverse] at this

section
variable {prog : Program} {w : World} {A : Around} {R : Result → Shared → Prop} {I : Addr} {fp wr : List Addr} {G : Array GenState → Array GenState → Prop} {n : Nat} {P : Nat → Value → Prop} {St : Nat → Shared → Prop}
theorem set_update_loop (W : WalksS prog w A.in1 I fp wr G n P St) (S : Addr) (hSf : S ∉ fp) (ns : List Int) (hns : ns.length = n) (hn6 : n ≤ 6) (hsm : ∀ x ∈ ns, -2 ≤ x ∧ x ≤ 9)
    (hval : ∀ i v, P i v → ∃ k t, ns[i]? = some k ∧ v = .int k t) :
    ∀ (k i : Nat) (s : Shared), n - i = k → i ≤ n → St i s → SetS prog w s.heap S (ddl (ns.take i)) →
      (∀ s', Moved (S :: wr) G s s' → SetS prog w s'.heap S (ddl ns) → R (.ok (.ret .none)) s') →
      codeAny (model prog w) A (.builtin "set.update.loop" ⟨[.ref S, .ref I], []⟩) R s := by
  have hSw : S ∉ wr := fun h => hSf (W.sub _ h)
  have hsub : ∀ b ∈ wr, b ∈ S :: wr := fun b hb => List.mem_cons_of_mem _ hb
  intro k
  induction k with
  | zero =>
    intro i s hk hi hst hS hR
    have hin : i = n := by omega
    subst hin
    rw [← hns, List.take_length] at hS
    refine codeAny_builtin PyProof.Rows.F.entry_set_update_loop ?_
    rw [Around.under_plainId PyProof.Rows.F.plain_set_update_loop _]
    show wpAny _ A.in1 (pyNext (.ref I) >>= _) _ _ s
    refine wpAny_bind (W.done s _ _ hst fun s' hm => ?_)
    show wpAny _ A.in1 (ret Value.none) _ _ s'
    exact wpAny_pure (hR s' (hm.mono hsub) (hS.at fun o ho => hm.heap S _ hSw ho))
  | succ k ih =>
    intro i s hk hi hst hS hR
    have hlt : i < n := by omega
    refine codeAny_builtin PyProof.Rows.F.entry_set_update_loop ?_
    rw [Around.under_plainId PyProof.Rows.F.plain_set_update_loop _]
    show wpAny _ A.in1 (pyNext (.ref I) >>= _) _ _ s
    refine wpAny_bind (W.item i s _ _ hlt hst fun v s' hP hst' hm => ?_)
    obtain ⟨x, t, hx, rfl⟩ := hval i v hP
    have hS' : SetS prog w s'.heap S (ddl (ns.take i)) := hS.at fun o ho => hm.heap S _ hSw ho
    show wpAny _ A.in1 (holding [Value.int x t] (setAdd S (.int x t)) >>= _) _ _ s'
    refine wpAny_bind (wpAny_holding ?_)
    unfold setAdd
    refine wpAny_holding ?_
    refine wpAny_bind ((intKind prog w).pyHash (k := x) (intKind_is _ _ _ _) ?_)
    obtain ⟨_, hd2, hd3⟩ := ddl_facts (ns.take i)
    have hxs := hsm x (List.mem_of_getElem? hx)
    refine set_add (s := { s' with toks := s'.toks + 1 }) hS' (fun y hy => hsm y (List.mem_of_mem_take ((hd2 y).mp hy))) hxs.1 hxs.2 (by rw [List.length_take] at hd3; omega) fun b h' hsb hS2 => ?_
    have hSi : SetS prog w h' S (ddl (ns.take (i + 1))) := by
      rw [List.take_add_one, hx]
      show SetS prog w h' S (ddl (ns.take i ++ [x]))
      rw [ddl_snoc]; exact hS2
    refine wpAny_pure ⟨plainId_quiet PyProof.Rows.F.plain_set_update_loop _, ih (i + 1) _ (by omega) hlt (W.frame _ s' _ _ hst' (Nat.le_succ _) fun b hb o e => ?_) hSi fun s'' hm'' hS'' => ?_⟩
    · rw [hsb.2 b (fun h : b = S => hSf (by rw [← h]; exact hb))]; exact e
    · refine hR s'' (Moved.trans W.gtrans ((hm.mono hsub).then_heap (Nat.le_succ _) fun b o hb e => ?_) hm'') hS''
      rw [hsb.2 b (fun h : b = S => hb (by rw [h]; exact List.mem_cons_self))]; exact e
end
noncomputable abbrev freshSet (w : World) : Obj := { cls := .type "set", dict := none, data := .set #[] 0 (.fresh 0 0 (!w.params.followText "set-order")) }
theorem setS_fresh {prog : Program} {w : World} {h : Heap} {a : Addr} (hg : h.get? a = some (freshSet w)) : SetS prog w h a [] := by
  refine ⟨_, #[], 0, _, hg, ⟨rfl, rfl, rfl⟩, rfl, (fun e he => by simp at he), .nil, by rfl, ?_⟩
  cases hb : w.params.followText "set-order" with
  | true => exact .inl hb
  | false => exact .inr ⟨rfl, rfl, List.Pairwise.nil, rfl, rfl, .inl ⟨rfl, by simp⟩⟩
section
variable {prog : Program} {w : World} {A : Around} {E : Value → Shared → Prop} {s : Shared}
theorem set_new_code (a : Value) {Q₁ : Value → Shared → Prop} (h : Q₁ (.ref s.heap.objs.size) { s with heap := s.heap.push (freshSet w) }) :
    codeAny (model prog w) A (.call (.builtin "set.__new__") ⟨[.type "set", a], []⟩) (wants Q₁ E) s := by
  refine codeAny_of_tree ?_
  show wpAny _ A.in1 (do checkBuiltinCall "set.__new__" ⟨[.type "set", a], []⟩; again (.builtin "set.__new__" ⟨[.type "set", a], []⟩)) _ _ s
  refine wpAny_bind (wpAny_of_eq (PySem.F.newCall_set_1 a) (wpAny_pure ⟨plainId_quiet PySem.F.plain_set_new _, codeAny_builtin PySem.F.entry_set_new ?_⟩))
  rw [Around.under_plainId PySem.F.plain_set_new _]
  unfold Builtin.«set.__new__» Builtin.Frozenset.newClass
  have hsub := sub_set_self
  obtain ⟨hp, g, d, tk, os⟩ := s
  dsimp only
  wp_walk
  refine wpAny_askSetting (wpAny_pure ?_)
  dsimp only
  simp only [newObj]
  refine wpAny_bind (wpAny_alloc (wpAny_pure ?_))
  exact wpAny_pure h

set_option maxHeartbeats 3200000 in
theorem set_of_list {l : Addr} {items : Array Value} {ns : List Int} {Q : Value → Shared → Prop}
    (hh : A.handled = none) (hl : s.heap.IsList l items) (hi : IntsAre items.toList ns) (hn : ns.length ≤ 6) (hsm : ∀ x ∈ ns, -2 ≤ x ∧ x ≤ 9)
    (h : ∀ (h' : Heap) (tk : Nat), SetS prog w h' s.heap.objs.size (ddl ns) → (∀ b o, b < s.heap.objs.size → s.heap.get? b = some o → h'.get? b = some o) → Q (.ref s.heap.objs.size) { s with heap := h', toks := tk }) :
    wpAny (model prog w) A (call (.type "set") [.ref l]) Q E s := by
  obtain ⟨c, tl, hmro⟩ := PySem.F.called_set.mro
  have hmade := PySem.F.called_set.made
  have hsub := PySem.F.called_set.sub
  have hsz : items.size = ns.length := by have := IntsAre.length hi; simpa using this
  refine wpAny_call (codeAny_of_tree ?_)
  show wpAny _ _ (callAny (.type "set") _) _ _ _
  refine wpAny_pure ⟨Code.quiet_builtin _ (by decide +kernel), codeAny_builtin PySem.F.entry_type_call ?_⟩
  rw [Around.under_plain (weight_type_call_type "set" [.ref l] []) rfl]
  have h1 := PySem.F.called_set.notType
  have h2 := PySem.F.called_set.canCreate
  have hct := PySem.F.typeCall_set_1 (.ref l)
  repeat (any_goals (first | assumption | wp_step))
  refine codeAny_mono (set_new_code (.ref l) (E := E) (Q₁ := fun obj s₁ => obj = .ref s.heap.objs.size ∧ s₁ = { s with heap := s.heap.push (freshSet w) }) ⟨rfl, rfl⟩) fun r s₁ hr => ?_
  cases r with
  | error e => exact hr
  | ok fl =>
    cases fl with
    | ret obj =>
      obtain ⟨rfl, rfl⟩ := hr
      have hS : (s.heap.push (freshSet w)).get? s.heap.objs.size = some (freshSet w) := Heap.get?_push_size _ rfl
      have hT : Shared.TypeIs { s with heap := s.heap.push (freshSet w) } (.ref s.heap.objs.size) "set" := ⟨_, hS, rfl⟩
      have hli := PySem.F.called_set.init.lookup
      have hbi := PySem.F.called_set.init.bind (.ref s.heap.objs.size)
      repeat (any_goals (first | assumption | wp_step))
      refine codeAny_mono (codeAny_call_builtin (R := wants (fun r s₂ => r = .none ∧ ∃ h' tk, s₂ = { s with heap := h', toks := tk } ∧ SetS prog w h' s.heap.objs.size (ddl ns) ∧
          (∀ b o, b < s.heap.objs.size → s.heap.get? b = some o → h'.get? b = some o)) E) PySem.F.called_set.init.plain PySem.F.entry_set_init (check_set_init_1 hT ?_)) fun r₂ s₂ hr₂ => ?_
      · obtain ⟨ol, hol, hcl, nl, hdl⟩ := hl
        obtain ⟨ocls, odict, odata, oslots⟩ := ol
        simp only at hcl hdl
        subst hcl; subst hdl
        have hol' : (s.heap.push (freshSet w)).get? l = some { cls := .type "list", dict := odict, data := .seq items nl, slots := oslots } := Heap.get?_push_of_some _ hol
        have hsls := PySem.F.sub_list_set
        have hslf := PySem.F.sub_list_frozenset
        have hne : (Value.type "list" == Value.type "dict") = false := by decide
        have hl1 : (s.heap.push (freshSet w)).IsList l items := ⟨_, hol', rfl, nl, rfl⟩
        unfold Builtin.«set.__init__» noKeywords Builtin.Frozenset.updateFrom
        generalize hPI : pyIter = PI
        wp_walk
        subst hPI
        refine wpAny_pyIter_list hl1 ?_
        refine wpAny_bind (wpAny_runValue ?_)
        have hlS : l < s.heap.objs.size := Heap.lt_size hol
        have hh3 : A.in1.in1.in1.handled = none := by simp [hh]
        have hneI : l ≠ (s.heap.push (freshSet w)).objs.size := by
          rw [Heap.size_push]; exact Nat.ne_of_lt (Nat.lt_succ_of_lt hlS)
        have hSf : s.heap.objs.size ∉ [(s.heap.push (freshSet w)).objs.size, l] := by
          rw [Heap.size_push]; simp only [List.mem_cons, List.mem_singleton, List.not_mem_nil, or_false, not_or]
          exact ⟨Nat.ne_of_lt (Nat.lt_succ_self _), Nat.ne_of_gt hlS⟩
        have hval : ∀ (i : Nat) (v : Value), items[i]? = some v → ∃ k t, ns[i]? = some k ∧ v = .int k t := fun i v hv => by
          obtain ⟨k, t, e, hk⟩ := IntsAre.at hi i v (by rw [Array.getElem?_toList]; exact hv)
          exact ⟨k, t, hk, e⟩
        refine set_update_loop ((Walks.list hh3 _ l hneI items).toS) s.heap.objs.size
          hSf ns hsz.symm (by omega) hsm hval (items.size - 0) 0 _ (by omega) (Nat.zero_le _)
          ⟨⟨_, Heap.get?_push_size _ rfl, rfl, rfl⟩, (hl1.push _)⟩ ?hS0 ?hR
        case hS0 => exact setS_fresh (Heap.get?_push_of_some _ hS)
        case hR =>
          intro s' hm hS'
          obtain ⟨h', g', d', tk', os'⟩ := s'
          have eg : g' = s.gens := hm.gens
          have ed : d' = s.drawn := hm.drawn
          have eo : os' = s.os := hm.os
          subst eg; subst ed; subst eo
          show wpAny _ _ _ _ _ _
          refine wpAny_pure ?_
          show wpAny _ _ (ret Value.none) _ _ _
          refine wpAny_pure ⟨rfl, h', tk', rfl, hS', fun b o hb e => ?_⟩
          have hb1 : b ≠ s.heap.objs.size := Nat.ne_of_lt hb
          have hb2 : b ≠ (s.heap.push (freshSet w)).objs.size := by
            rw [Heap.size_push]; exact Nat.ne_of_lt (Nat.lt_succ_of_lt hb)
          exact hm.heap b o (by simp only [List.mem_cons, List.mem_singleton, List.not_mem_nil, or_false, not_or]; exact ⟨hb1, hb2⟩) (Heap.get?_push_of_some _ (Heap.get?_push_of_some _ e))
      · cases r₂ with
        | error e => exact hr₂
        | ok fl₂ =>
          cases fl₂ with
          | ret r =>
            obtain ⟨rfl, h', tk, rfl, hS', hk'⟩ := hr₂
            repeat (any_goals (first | assumption | wp_step))
            exact h _ _ hS' hk'
          | _ => exact hr₂.elim
    | _ => exact hr.elim
end
theorem si_entry_iter : entryFor table "set.__iter__" = some Builtin.«frozenset.__iter__» :=
  entryFor_alias (id' := "frozenset.__iter__") (by kernel_rfl) (by decide +kernel) (by decide +kernel) (by kernel_rfl)
theorem si_owner : Manifest.owners.lookup (String.ofList ['r', 'o', 't', 'a', 'r', 'e', 't', 'i', '_', 't', 'e', 's'].reverse) = some Manifest.sig_set_iterator := by kernel_rfl
theorem si_slot_next : Slot "set_iterator" "__next__" "set_iterator.__next__" :=
  .of (owner := "set_iterator") (n := "__next__") (by rw [typeLookup_type, builtinLookup_eq_fast]; kernel_rfl) (by decide +kernel) (by decide +kernel) (by decide +kernel)
    (by first | exact .inl (by decide +kernel) | exact .inr (by decide +kernel)) (by rw [isSubtype_type]; kernel_rfl)
theorem si_entry_next : entryFor table "set_iterator.__next__" = some Builtin.«set_iterator.__next__» := entryFor_of_tree (by kernel_rfl)
theorem si_args_next (a : Value) : argsOk "set_iterator.__next__" ⟨[a], []⟩ := by
  unfold argsOk; rw [signature?_of (id := "set_iterator.__next__") (n := ['_', '_', 't', 'x', 'e', 'n', '_', '_']) (o := ['r', 'o', 't', 'a', 'r', 'e', 't', 'i', '_', 't', 'e', 's']) (by kernel_rfl) si_owner]; kernel_rfl

def IsSetIter (h : Heap) (it a : Addr) (slot i n ep : Nat) : Prop :=
  ∃ o, h.get? it = some o ∧ o.cls = .type "set_iterator" ∧ o.data = .fields #[.int slot 0, .int i 0, .ref a, .int n 0, .int ep 0]
theorem IsSetIter.typeIs {s : Shared} {it a : Addr} {slot i n ep : Nat} (x : IsSetIter s.heap it a slot i n ep) : s.TypeIs (.ref it) "set_iterator" := let ⟨o, ho, hc, _⟩ := x; ⟨o, ho, hc⟩
theorem IsSetIter.at {h h' : Heap} {it a : Addr} {slot i n ep : Nat} (x : IsSetIter h it a slot i n ep) (e : ∀ o, h.get? it = some o → h'.get? it = some o) : IsSetIter h' it a slot i n ep := let ⟨o, ho, r⟩ := x; ⟨o, e _ ho, r⟩
/-- the order in which a set of this kind is walked -/
noncomputable def ordOf (w : World) (a : Addr) (ep : Nat) (es : Array (Int × Value)) : Array (Int × Value) := if w.params.followText "set-order" then pickOrder (w.params.setOrder a ep) es else es
/-- a set object as it stands, to be walked -/
structure SetIs (w : World) (h : Heap) (a : Addr) (o : Obj) (es : Array (Int × Value)) (ep : Nat) (t : SetTable) : Prop where
  get : h.get? a = some o
  cls : o.cls = .type "set"
  data : o.data = .set es ep t
  fits : t.fits es.size = true
  ok : ByText w ∨ TabOk t es.size
theorem erase_perm {α : Type} : ∀ {l : List α} {i : Nat} (h : i < l.length), (l[i] :: l.eraseIdx i).Perm l
  | _ :: _, 0, _ => .rfl
  | a :: r, i + 1, h => by
    have hi : i < r.length := by simpa using h
    have ih := erase_perm (l := r) (i := i) hi
    rw [List.getElem_cons_succ, List.eraseIdx_cons_succ]
    exact (List.Perm.swap a r[i] _).trans (List.Perm.cons a ih)
theorem pick_perm {α : Type} (next : Nat → Nat) : ∀ (n k : Nat) (xs : List α) (out : Array α), xs.length = n → (pickOrder.go next n k xs out).toList.Perm (out.toList ++ xs)
  | 0, _, xs, out, h => by
    rw [List.eq_nil_of_length_eq_zero h]
    simp [pickOrder.go]
  | n + 1, k, xs, out, h => by
    have hlt : next k % xs.length < xs.length := Nat.mod_lt _ (by omega)
    unfold pickOrder.go
    rw [List.getElem?_eq_getElem hlt]
    dsimp only
    refine (pick_perm next n (k + 1) _ _ (by rw [List.length_eraseIdx_of_lt hlt, h]; rfl)).trans ?_
    rw [Array.toList_push, List.append_assoc]
    refine List.Perm.append_left _ ?_
    exact erase_perm hlt
theorem ord_perm (w : World) (a : Addr) (ep : Nat) (es : Array (Int × Value)) : (ordOf w a ep es).toList.Perm es.toList := by
  unfold ordOf
  split
  · unfold pickOrder
    simpa using pick_perm (w.params.setOrder a ep) es.size 0 es.toList #[] (by simp)
  · exact .rfl

section
variable {prog : Program} {w : World} {A : Around} {E : Value → Shared → Prop} {s : Shared}
theorem set_pyIter {a : Addr} {o : Obj} {es : Array (Int × Value)} {ep : Nat} {t : SetTable} {Q : Value → Shared → Prop} (x : SetIs w s.heap a o es ep t)
    (hQ : Q (.ref s.heap.objs.size) { s with heap := s.heap.push { cls := .type "set_iterator", data := .fields #[.int 0 0, .int 0 0, .ref a, .int es.size 0, .int ep 0] } }) :
    wpAny (model prog w) A (pyIter (.ref a)) Q E s := by
  have hT : s.TypeIs (.ref a) "set" := ⟨o, x.get, x.cls⟩
  refine wpAny_pyIter_slot hT PySem.F.slot_set_iter (wpAny_call_entry PySem.F.slot_set_iter hT si_entry_iter ?_ (PySem.F.args_set_iter_1 _))
  unfold Builtin.«frozenset.__iter__»
  refine wpAny_bind (wpAny_pure ?_)
  refine wpAny_bind ?_
  unfold Builtin.Frozenset.sizeOf setEntries
  refine wpAny_bind (wpAny_bind (wpAny_setState_of x.get x.data x.fits (wpAny_pure (wpAny_pure ?_))))
  refine wpAny_bind ?_
  unfold setDrawn
  refine wpAny_bind (wpAny_setState_of x.get x.data x.fits ?_)
  dsimp only
  unfold setsByText
  refine wpAny_bind (wpAny_bind (wpAny_askSetting (wpAny_pure ?_)))
  refine wpAny_pure ?_
  have hno : (!w.params.followText "set-order" && (!t.plain && decide (es.size > 1))) = false := by
    rcases x.ok with h | h
    · have : w.params.followText "set-order" = true := h
      rw [this]; rfl
    · rw [h.plain]; simp
  show wpAny _ _ (if (!w.params.followText "set-order" && (!t.plain && decide (es.size > 1))) = true then _ else _) _ _ s
  rw [hno]
  simp only [Bool.false_eq_true, if_false]
  refine wpAny_bind (wpAny_pure ?_)
  unfold setEpoch
  refine wpAny_bind (wpAny_bind (wpAny_setState_of x.get x.data x.fits (wpAny_pure ?_)))
  exact wpAny_bind (wpAny_newObj_type (wpAny_pure ⟨_, rfl, "set_iterator", _, ⟨_, Heap.get?_push_size _ rfl, rfl⟩, si_slot_next.lookup, hQ⟩))

/-- the set's iterator stands before the i-th of the order -/
def SetSt (w : World) (I a : Addr) (o : Obj) (es : Array (Int × Value)) (ep : Nat) (t : SetTable) (i : Nat) (h : Heap) : Prop :=
  (∃ slot, IsSetIter h I a slot i es.size ep ∧ (ByText w ∨ SetTable.below t.place slot = i)) ∧ SetIs w h a o es ep t
theorem SetIs.at {h h' : Heap} {a : Addr} {o : Obj} {es : Array (Int × Value)} {ep : Nat} {t : SetTable} (x : SetIs w h a o es ep t) (e : ∀ o, h.get? a = some o → h'.get? a = some o) : SetIs w h' a o es ep t := ⟨e _ x.get, x.cls, x.data, x.fits, x.ok⟩

theorem set_next_some {a : Addr} {o : Obj} {es : Array (Int × Value)} {ep : Nat} {t : SetTable} {i slot : Nat} {Q : Option (Value × Nat) → Shared → Prop} (x : SetIs w s.heap a o es ep t) (hi : i < es.size) (hb : ByText w ∨ SetTable.below t.place slot = i)
    (hQ : ∀ v next, (∃ e, (ordOf w a ep es)[i]? = some e ∧ v = e.2) → (ByText w ∨ SetTable.below t.place next = i + 1) → Q (some (v, next)) s) : wpAny (model prog w) A (setNext a slot i ep) Q E s := by
  unfold setNext
  refine wpAny_bind (wpAny_setState_of x.get x.data x.fits ?_)
  dsimp only
  unfold setsByText
  refine wpAny_bind (wpAny_bind (wpAny_askSetting (wpAny_pure ?_)))
  have hord := ord_perm w a ep es
  by_cases hbt : w.params.followText "set-order" = true
  · show wpAny _ _ (if (w.params.followText "set-order") = true then _ else _) _ _ s
    rw [if_pos hbt, if_neg (by simp)]
    unfold setWalk setsByText
    refine wpAny_bind (wpAny_bind (wpAny_setState_of x.get x.data x.fits ?_))
    refine wpAny_bind (wpAny_bind (wpAny_askSetting (wpAny_pure ?_)))
    show wpAny _ _ (if (w.params.followText "set-order") = true then _ else _) _ _ s
    rw [if_pos hbt]
    refine wpAny_bind (wpAny_askSetting (wpAny_pure ?_))
    have ho : ordOf w a ep es = pickOrder (w.params.setOrder a ep) es := by unfold ordOf; rw [if_pos hbt]
    have hlt : i < (pickOrder (w.params.setOrder a ep) es).size := by
      rw [ho] at hord
      have := hord.length_eq
      simp only [Array.length_toList] at this
      omega
    refine wpAny_pure ?_
    have hg : (pickOrder (w.params.setOrder a ep) es)[i]? = some (pickOrder (w.params.setOrder a ep) es)[i] := Array.getElem?_eq_getElem hlt
    show Q (((pickOrder (w.params.setOrder a ep) es)[i]?).map fun e => (e.2, slot)) s
    rw [hg]
    exact hQ _ _ ⟨_, by rw [ho]; exact hg, rfl⟩ (.inl hbt)
  · have hbf : w.params.followText "set-order" = false := by simpa using hbt
    have hT : TabOk t es.size := x.ok.resolve_left hbt
    have hb' : SetTable.below t.place slot = i := hb.resolve_left hbt
    show wpAny _ _ (if (w.params.followText "set-order") = true then _ else _) _ _ s
    rw [if_neg hbt]
    show wpAny _ _ (if (!t.plain && decide (es.size > 1)) = true then _ else _) _ _ s
    rw [if_neg (by rw [hT.plain]; simp)]
    refine wpAny_bind ?_
    show wpAny _ _ (if (!t.led && !es.isEmpty) = true then _ else _) _ _ s
    rw [if_neg (by rw [hT.led]; simp)]
    refine wpAny_pure ?_
    have hp : i < t.place.size := by rw [hT.size]; exact hi
    have he : es[i]? = some es[i] := Array.getElem?_eq_getElem hi
    have hpl : t.place[i]? = some t.place[i] := Array.getElem?_eq_getElem hp
    rw [hb', he, hpl]
    refine wpAny_pure (hQ _ _ ⟨es[i], ?_, rfl⟩ (.inr ?_))
    · unfold ordOf; rw [if_neg hbt]; exact he
    · rw [below_is hT.ris]
      have hp' : i < t.place.toList.length := by simpa using hp
      have := cntN_next hT.ris hp'
      simpa using this
theorem set_next_none {a : Addr} {o : Obj} {es : Array (Int × Value)} {ep : Nat} {t : SetTable} {slot : Nat} {Q : Option (Value × Nat) → Shared → Prop} (x : SetIs w s.heap a o es ep t) (hb : ByText w ∨ SetTable.below t.place slot = es.size)
    (hQ : Q none s) : wpAny (model prog w) A (setNext a slot es.size ep) Q E s := by
  unfold setNext
  refine wpAny_bind (wpAny_setState_of x.get x.data x.fits ?_)
  dsimp only
  unfold setsByText
  refine wpAny_bind (wpAny_bind (wpAny_askSetting (wpAny_pure ?_)))
  have hord := ord_perm w a ep es
  by_cases hbt : w.params.followText "set-order" = true
  · show wpAny _ _ (if (w.params.followText "set-order") = true then _ else _) _ _ s
    rw [if_pos hbt, if_neg (by simp)]
    unfold setWalk setsByText
    refine wpAny_bind (wpAny_bind (wpAny_setState_of x.get x.data x.fits ?_))
    refine wpAny_bind (wpAny_bind (wpAny_askSetting (wpAny_pure ?_)))
    show wpAny _ _ (if (w.params.followText "set-order") = true then _ else _) _ _ s
    rw [if_pos hbt]
    refine wpAny_bind (wpAny_askSetting (wpAny_pure ?_))
    have ho : ordOf w a ep es = pickOrder (w.params.setOrder a ep) es := by unfold ordOf; rw [if_pos hbt]
    have hge : (pickOrder (w.params.setOrder a ep) es).size ≤ es.size := by
      rw [ho] at hord
      have := hord.length_eq
      simp only [Array.length_toList] at this
      omega
    refine wpAny_pure ?_
    show Q (((pickOrder (w.params.setOrder a ep) es)[es.size]?).map fun e => (e.2, slot)) s
    rw [Array.getElem?_eq_none hge]
    exact hQ
  · have hT : TabOk t es.size := x.ok.resolve_left hbt
    have hb' : SetTable.below t.place slot = es.size := hb.resolve_left hbt
    show wpAny _ _ (if (w.params.followText "set-order") = true then _ else _) _ _ s
    rw [if_neg hbt]
    show wpAny _ _ (if (!t.plain && decide (es.size > 1)) = true then _ else _) _ _ s
    rw [if_neg (by rw [hT.plain]; simp)]
    refine wpAny_bind ?_
    show wpAny _ _ (if (!t.led && !es.isEmpty) = true then _ else _) _ _ s
    rw [if_neg (by rw [hT.led]; simp)]
    refine wpAny_pure ?_
    rw [hb', Array.getElem?_eq_none (Nat.le_refl _)]
    exact wpAny_pure hQ
end
section
variable {prog : Program} {w : World} {A : Around} {E : Value → Shared → Prop} {s : Shared}
theorem set_entries {a : Addr} {o : Obj} {es : Array (Int × Value)} {ep : Nat} {t : SetTable} {Q : Array (Int × Value) → Shared → Prop} (x : SetIs w s.heap a o es ep t) (h : Q es s) : wpAny (model prog w) A (setEntries a) Q E s := by
  unfold setEntries
  exact wpAny_bind (wpAny_setState_of x.get x.data x.fits (wpAny_pure h))
theorem set_pyNext_some {I a : Addr} {o : Obj} {es : Array (Int × Value)} {ep : Nat} {t : SetTable} {i : Nat} {Q : Option Value → Shared → Prop} (hne : a ≠ I) (hi : i < es.size) (st : SetSt w I a o es ep t i s.heap)
    (hQ : ∀ v h', (∃ e, (ordOf w a ep es)[i]? = some e ∧ v = e.2) → SetSt w I a o es ep t (i + 1) h' → (∀ b x, b ∉ [I] → s.heap.get? b = some x → h'.get? b = some x) → Q (some v) { s with heap := h' }) :
    wpAny (model prog w) A (pyNext (.ref I)) Q E s := by
  obtain ⟨⟨slot, hit, hb⟩, x⟩ := st
  obtain ⟨oi, ho, hc, hd⟩ := id hit
  unfold pyNext
  refine wpAny_bind (wpAny_attempt (wpAny_callSpecial?_slot (name := Str.ofString "__next__") hit.typeIs si_slot_next (wpAny_call_entry si_slot_next hit.typeIs si_entry_next ?_ (si_args_next _))))
  unfold Builtin.«set_iterator.__next__»
  refine wpAny_bind (wpAny_pure ?_)
  refine wpAny_bind (wpAny_fieldsOf ho hd ?_)
  dsimp only
  refine wpAny_bind (set_entries x ?_)
  rw [if_neg (by simp)]
  simp only [Int.toNat_natCast]
  refine wpAny_bind (set_next_some x hi hb fun v next hv hn => ?_)
  dsimp only
  show wpAny _ _ (setField (.ref I) 0 (rawInt (next : Int)) >>= _) _ _ s
  refine wpAny_bind (wpAny_setField ho hd (by simp) ?_)
  have hg1 : (s.heap.update I (Obj.mapFields (·.setIfInBounds 0 (rawInt (next : Int))))).get? I = some (Obj.mapFields (·.setIfInBounds 0 (rawInt (next : Int))) oi) :=
    Heap.get?_update_self _ ho (Obj.isFreed_of_fields (Obj.data_mapFields hd _))
  have hd1 := Obj.data_mapFields hd (·.setIfInBounds 0 (rawInt (next : Int)))
  have hc1 : (Obj.mapFields (·.setIfInBounds 0 (rawInt (next : Int))) oi).cls = .type "set_iterator" := (Obj.cls_mapFields ..).trans hc
  refine wpAny_bind (wpAny_setField (s := { s with heap := s.heap.update I (Obj.mapFields (·.setIfInBounds 0 (rawInt (next : Int)))) }) hg1 hd1 (by simp) ?_)
  refine wpAny_pure ⟨_, rfl, wpAny_pure (hQ v _ hv ⟨⟨next, ⟨_, Heap.get?_update_self _ hg1 (Obj.isFreed_of_fields (Obj.data_mapFields hd1 _)), (Obj.cls_mapFields ..).trans hc1, ?_⟩, hn⟩, ?_⟩ ?_)⟩
  · rw [Obj.data_mapFields hd1]; simp [rawInt]
  · exact x.at fun o' e => (Heap.get?_update_ne _ _ _ _ hne).trans ((Heap.get?_update_ne _ _ _ _ hne).trans e)
  · intro b y hb' e
    have hbI : b ≠ I := fun q => hb' (by rw [q]; simp)
    exact (Heap.get?_update_ne _ _ _ _ hbI).trans ((Heap.get?_update_ne _ _ _ _ hbI).trans e)
theorem set_pyNext_none {I a : Addr} {o : Obj} {es : Array (Int × Value)} {ep : Nat} {t : SetTable} {Q : Option Value → Shared → Prop} (hh : A.handled = none) (st : SetSt w I a o es ep t es.size s.heap)
    (hQ : ∀ h', (∀ b x, b ∉ [I] → s.heap.get? b = some x → h'.get? b = some x) → Q none { s with heap := h' }) : wpAny (model prog w) A (pyNext (.ref I)) Q E s := by
  obtain ⟨⟨slot, hit, hb⟩, x⟩ := st
  obtain ⟨oi, ho, hc, hd⟩ := id hit
  unfold pyNext
  refine wpAny_bind (wpAny_attempt (wpAny_callSpecial?_slot (name := Str.ofString "__next__") hit.typeIs si_slot_next (wpAny_call_entry si_slot_next hit.typeIs si_entry_next ?_ (si_args_next _))))
  unfold Builtin.«set_iterator.__next__»
  refine wpAny_bind (wpAny_pure ?_)
  refine wpAny_bind (wpAny_fieldsOf ho hd ?_)
  dsimp only
  refine wpAny_bind (set_entries x ?_)
  rw [if_neg (by simp)]
  simp only [Int.toNat_natCast]
  refine wpAny_bind (set_next_none x hb ?_)
  dsimp only
  show wpAny _ _ (setField (.ref I) 2 .none >>= _) _ _ s
  refine wpAny_bind (wpAny_setField ho hd (by simp) ?_)
  show wpAny _ _ (newExc (.type "StopIteration") [] >>= _) _ _ _
  refine wpAny_bind ?_
  simp only [newExc, newTuple]
  refine wpAny_bind (wpAny_newObj_type ?_ (by size_fits))
  refine wpAny_bind (m := firstArgMember _ _) (wpAny_of_eq (a := Value.none) (by first | rfl | (simp only [firstArgMember]; rfl)) ?_)
  refine wpAny_newObj_type ?_ (by size_fits)
  simp only [raiseNew]
  refine wpAny_bind (wpAny_handled ?_)
  rw [show A.in1.handled = none from hh]
  refine wpAny_bind (wpAny_pure (wpAny_throw ?_))
  refine wpAny_bind (wpAny_isInstance (T := "StopIteration") (b := true) ⟨_, Heap.get?_push_size _ rfl, rfl⟩ isSubtype_stop ?_)
  refine wpAny_pure (hQ _ fun b y hb' e => ?_)
  have hbI : b ≠ I := fun q => hb' (by rw [q]; simp)
  exact Heap.get?_push_of_some _ (Heap.get?_push_of_some _ ((Heap.get?_update_ne _ _ _ _ hbI).trans e))
theorem si_slot_iter : Slot "set_iterator" "__iter__" "set_iterator.__iter__" :=
  .of (owner := "set_iterator") (n := "__iter__") (by rw [typeLookup_type, builtinLookup_eq_fast]; kernel_rfl) (by decide +kernel) (by decide +kernel) (by decide +kernel)
    (by first | exact .inl (by decide +kernel) | exact .inr (by decide +kernel)) (by rw [isSubtype_type]; kernel_rfl)
theorem si_args_iter (a : Value) : argsOk "set_iterator.__iter__" ⟨[a], []⟩ := by
  unfold argsOk; rw [signature?_of (id := "set_iterator.__iter__") (n := ['_', '_', 'r', 'e', 't', 'i', '_', '_']) (o := ['r', 'o', 't', 'a', 'r', 'e', 't', 'i', '_', 't', 'e', 's']) (by kernel_rfl) si_owner]; kernel_rfl
theorem si_entry_iter2 : entryFor table "set_iterator.__iter__" = some Builtin.«dict_keyiterator.__iter__» :=
  entryFor_alias (id' := "dict_keyiterator.__iter__") (by kernel_rfl) (by decide +kernel) (by decide +kernel) (by kernel_rfl)
end

section
variable {prog : Program} {w : World} {A : Around} {E : Value → Shared → Prop} {s : Shared}
theorem set_pyIter_self {I a : Addr} {slot i n ep : Nat} {Q : Value → Shared → Prop} (hit : IsSetIter s.heap I a slot i n ep) (h : Q (.ref I) s) : wpAny (model prog w) A (pyIter (.ref I)) Q E s := by
  refine wpAny_pyIter_slot hit.typeIs si_slot_iter (wpAny_call_entry si_slot_iter hit.typeIs si_entry_iter2 ?_ (si_args_iter _))
  show wpAny _ _ (ret (.ref I)) _ _ s
  exact wpAny_pure ⟨_, rfl, "set_iterator", _, hit.typeIs, si_slot_next.lookup, h⟩
theorem set_walks (hh : A.handled = none) (I a : Addr) (hne : a ≠ I) (o : Obj) (es : Array (Int × Value)) (ep : Nat) (t : SetTable) :
    Walks prog w A I [I, a] [I] es.size (fun i v => ∃ e, (ordOf w a ep es)[i]? = some e ∧ v = e.2) (SetSt w I a o es ep t) where
  sub := fun b hb => by simp at hb; simp [hb]
  frame := fun _ _ _ st hk => by
    obtain ⟨⟨slot, h1, h2⟩, x⟩ := st
    exact ⟨⟨slot, h1.at fun o e => hk I (by simp) o e, h2⟩, x.at fun o e => hk a (by simp) o e⟩
  item := fun i s Q E hi st hQ => set_pyNext_some hne hi st fun v h' hv st' hk => hQ v h' s.toks hv st' hk
  done := fun s Q E st hQ => set_pyNext_none hh st fun h' hk => hQ h' s.toks hk
  self := fun i s Q E st hQ => by
    obtain ⟨⟨slot, h1, _⟩, _⟩ := st
    exact set_pyIter_self h1 hQ
theorem set_hint {a : Addr} {Q : Bool → Shared → Prop} (hT : s.TypeIs (.ref a) "set") (h : Q false s) : wpAny (model prog w) A (Builtin.List.listLengthHint (.ref a)) Q E s := by
  unfold Builtin.List.listLengthHint
  refine wpAny_bind (wpAny_specialOf hT PySem.F.slot_set_len.lookup ?_)
  generalize hid : ("set.__len__" : String) = id0
  wp_delta
  rw [show splitId id0 = some ("set", "__len__") from by subst hid; decide +kernel]
  subst hid
  refine wpAny_bind (wpAny_isInstance (T := "set") (b := true) hT (by rw [isSubtype_type]; kernel_rfl) ?_)
  refine wpAny_ite_split (fun hab => absurd hab (by decide)) (fun _ => ?_)
  refine wpAny_ite_split (fun _ => ?_) (fun hab => absurd (by decide +kernel) hab)
  refine wpAny_bind (wpAny_typeOf hT ?_)
  exact wpAny_pure h
theorem set_src (a : Addr) (o : Obj) (es : Array (Int × Value)) (ep : Nat) (t : SetTable) :
    KdlSrc prog w "set" a a es.size (fun i v => ∃ e, (ordOf w a ep es)[i]? = some e ∧ v = e.2) (fun h => SetIs w h a o es ep t) where
  type := fun _ x => ⟨o, x.get, x.cls⟩
  there := fun _ x => ⟨Heap.lt_size x.get, Heap.lt_size x.get⟩
  keep := fun _ _ x k => x.at fun o e => k a (.inl rfl) o e
  notList := by decide
  notTuple := by decide
  hint := fun _ _ _ _ x h => set_hint ⟨o, x.get, x.cls⟩ h
  iter := fun A s hh x => ⟨_, SetSt w s.heap.objs.size a o es ep t, fun _ _ h => set_pyIter x h, set_walks hh _ a (Nat.ne_of_lt (Heap.lt_size x.get)) o es ep t,
    ⟨⟨0, ⟨_, Heap.get?_push_size _ rfl, rfl, rfl⟩, by
      refine x.ok.imp id fun h => ?_
      rw [below_is h.ris]
      unfold cntN
      simp⟩, x.at fun o e => Heap.get?_push_of_some _ e⟩⟩
end
section
variable {prog : Program} {w : World} {A : Around} {E : Value → Shared → Prop} {s : Shared} {h₀ : Heap} {L : Addr} {m : Str → Option Value} {news : List (Addr × Obj)}
/-- a list of ints sorted in place -/
theorem sort_ints {D : Addr} {vs : List Value} {ns : List Int} {n : Nat} {Q : Value → Shared → Prop} (F : Fr h₀ L s.heap m) (N : News h₀ L s.heap ((D, listOf vs.toArray n) :: news)) (hD : ∀ q ∈ news, q.1 < D) (hi : IntsAre vs ns) (h64 : vs.length < 64)
    (h : ∀ vs' ns' n' h', Fr h₀ L h' m → News h₀ L h' ((D, listOf (List.toArray vs') n') :: news) → IntsAre vs' ns' → ns'.Perm ns → ns'.Pairwise (· ≤ ·) → Q .none { s with heap := h' }) :
    wpAny (model prog w) A (call (.builtin "list.sort") [.ref D]) Q E s := by
  have z := N (D, listOf vs.toArray n) (.head _)
  refine wpAny_call_entry PyProof.Rows.slot_list_sort ⟨_, z.1, rfl⟩ PyProof.Rows.entry_list_sort (list_sort_tree (n := n) (vs := vs) z.1 hi h64 fun out ns' hI hp hP => ⟨.none, rfl, ?_⟩) (PyProof.Rows.args_list_sort _)
  have F1 : Fr h₀ L (s.heap.update D (Obj.mapSeq fun _ => (#[] : Array Value))) m := F.change (Heap.SameBut.update ..) z.2.1 z.2.2
  have hDlt := Heap.lt_size z.1
  have F4 : Fr h₀ L (sortedHeap s.heap D vs out) m := ((F1.push (seqObj "tuple" vs.toArray 0)).push (seqObj "list" #[] 0)).change (Heap.SameBut.update ..) z.2.1 z.2.2
  have g1 := get?_update_seq z.1 (fun _ => (#[] : Array Value))
  have g2 := Heap.get?_push_of_some (seqObj "tuple" vs.toArray 0) g1
  have g3 := Heap.get?_push_of_some (seqObj "list" #[] 0) g2
  obtain ⟨n4, g4⟩ : ∃ n4, (sortedHeap s.heap D vs out).get? D = some (listOf out n4) := ⟨_, get?_update_seq g3 (fun _ => out)⟩
  have out' : out = out.toList.toArray := by simp
  rw [out'] at g4
  have N4 : News h₀ L (sortedHeap s.heap D vs out) ((D, listOf out.toList.toArray n4) :: news) := by
    intro p hp
    rcases List.mem_cons.mp hp with rfl | hp
    · exact ⟨g4, z.2⟩
    · have y := N p (.tail _ hp)
      have hne : p.1 ≠ D := Nat.ne_of_lt (hD p hp)
      refine ⟨?_, y.2⟩
      exact (Heap.get?_update_ne _ _ _ _ hne).trans (Heap.get?_push_of_some _ (Heap.get?_push_of_some _ ((Heap.get?_update_ne _ _ _ _ hne).trans y.1)))
  exact h out.toList ns' n4 _ F4 N4 hI hp hP

/-- sorted of a set of ints: its ints, rising -/
theorem sorted_set {a : Addr} {ks : List Int} {Q : Value → Shared → Prop} (hh : A.handled = none) (F : Fr h₀ L s.heap m) (N : News h₀ L s.heap news) (hS : SetS prog w s.heap a ks) (hn : ks.length ≤ 6)
    (h : ∀ D vs n h' tk, Fr h₀ L h' m → News h₀ L h' ((D, listOf (List.toArray vs) n) :: news) → (∀ q ∈ news, q.1 < D) → (∃ ns, IntsAre vs ns ∧ ns.Perm ks ∧ ns.Pairwise (· ≤ ·)) → Q (.ref D) { s with heap := h', toks := tk }) :
    wpAny (model prog w) A (call (.builtin "sorted") [.ref a]) Q E s := by
  obtain ⟨o, es, ep, t, ho, hex, hd, hel, hperm, hf, hT⟩ := hS
  have hsz : es.size = ks.length := by rw [← keysOf_len, hperm.length_eq]
  refine kdu_sorted (set_src a o es ep t) hh F N ⟨ho, hex.1, hd, hf, hT⟩ (fits_line (by omega)) fun D h' tk vs F' N' l1 hl hv => ?_
  have hord := ord_perm w a ep es
  have hvs : IntsAre vs (keysOf (ordOf w a ep es)) := by
    have hlen : (ordOf w a ep es).toList.length = es.size := by rw [hord.length_eq]; simp
    have key : ∀ (l : List (Int × Value)) (us : List Value), us.length = l.length → (∀ e ∈ l, ∃ t, e.2 = .int (keyOf e.2) t) → (∀ (j : Nat) (v : Value), us[j]? = some v → ∃ e : Int × Value, l[j]? = some e ∧ v = e.2) → IntsAre us (l.map fun e => keyOf e.2) := by
      intro l
      induction l with
      | nil => intro us hu _ _; rw [List.eq_nil_of_length_eq_zero hu]; exact .nil
      | cons e r ih =>
        intro us hu he hj
        cases us with
        | nil => cases hu
        | cons u us =>
          obtain ⟨e', h1, h2⟩ := hj 0 u rfl
          simp only [List.getElem?_cons_zero, Option.some.injEq] at h1
          subst h1
          obtain ⟨t', ht⟩ := he e (.head _)
          rw [List.map_cons]
          have : u = .int (keyOf e.2) t' := h2.trans ht
          rw [this]
          exact .cons _ _ (ih us (by simpa using hu) (fun x hx => he x (.tail _ hx)) fun j v hv => hj (j + 1) v hv)
    refine key _ _ (by rw [hl, hlen]) ?_ fun j v hv' => ?_
    · intro e he
      obtain ⟨t', h1, _⟩ := elem_int hel (hord.mem_iff.mp he)
      exact ⟨t', h1⟩
    · obtain ⟨e, h1, h2⟩ := hv j v hv'
      exact ⟨e, by rw [Array.getElem?_toList]; exact h1, h2⟩
  have hkp : (keysOf (ordOf w a ep es)).Perm ks := (hord.map fun e : Int × Value => keyOf e.2).trans hperm
  refine sort_ints F' N' l1 hvs (by rw [hl, hsz]; omega) fun vs' ns' n' h2 F2 N2 hI hp hP => ?_
  exact h D vs' n' h2 tk F2 N2 l1 ⟨ns', hI, hp.trans hkp, hP⟩
end
theorem code_subC {prog : Program} {w : World} {A A₀ : Around} {s : Shared} {K : Frag} {L : Addr} {h₀ base : Heap} {m mg mb : Str → Option Value} {news : List (Addr × Obj)} {p : Program} {loose : List Str} {mean : ExcName → Option Value}
    {env : PySem.Env} {outer : List PySem.Env} {R : Result → Shared → Prop} {name qual : Str} {params : Arguments} {body : List Stmt} {scope : Scope} {dV kV doc pm cdv ct oc : Value} {an od : Option Addr} {osl : Array (Option Value)} {f : Addr} {args : Args} {binds : List (Str × Value)}
    (B : Below A₀ base outer h₀) (F : Fr h₀ L s.heap m) (X₀ : K.In h₀) (N : News h₀ L s.heap news) (T : Top p loose mean mg mb h₀) (hA : A.frames = some (env :: outer)) (hf : env.frame = some L) (hke : env.scope.kind = .function)
    (ho : K.lookup f = some ⟨oc, od, .func (fnOf name qual params body scope dV kV doc pm an cdv ct), osl⟩) (hcd : codeIn K cdv qual = true) (hroom : A.depth < recursionLimit)
    (hbind : BindsTo s (fnOf name qual params body scope dV kV doc pm an cdv ct) args binds) (hkind : (binds.all fun y => scope.names.lookup y.1 == some .local || scope.names.lookup y.1 == some .cell) = true)
    (hnd : ((cellsFrom 0 scope.names []).map (·.1)).Nodup)
    (h : ∀ g L' h₁ tk cells, Kept s.heap g news → Fr h₀ L g m → Fr g L' h₁ (bindL (envOfC qual scope L' f cdv).kindOf binds fun _ => none) → News g L' h₁ (cells ++ news) →
      CellsAre (bindC (envOfC qual scope L' f cdv).kindOf binds fun _ => none) (cellsFrom (L' + 1) scope.names []) cells → Below A base (env :: outer) g → K.In g → Top p loose mean mg mb g → (∀ p ∈ news, p.1 < L') →
      wpAny (model prog w) (A.deeper (envOfC qual scope L' f cdv)) (execs body (envOfC qual scope L' f cdv))
        (fun fl s' => LeaveK h₀ L m g R (match fl with | .ret v => v | _ => .none) s')
        (fun e s' => wpAny (model prog w) (A.deeper (envOfC qual scope L' f cdv)) (leaving (envOfC qual scope L' f cdv) e) (fun _ s'' => R (.error e) s'') (fun e' s'' => R (.error e') s'') s')
        { s with heap := h₁, toks := tk })
    (hco : scope.isCoroutine = false) (hgen : scope.isGenerator = false) (hk : scope.kind = .function) : codeAny (model prog w) A (.call (.ref f) args) R s := by
  obtain ⟨FG, BG, st, lv⟩ := groundX (R := R) B F N hA hf hke
  refine codeAny_call_function hroom ((X₀.keeps F.keep) _ _ ho) rfl hco hgen rfl (codeRec_of (X₀.keeps F.keep) hcd) (hbind _ _ _ _ ?_)
  refine wpAny_newFunctionEnv_cells hk (kindsX hkind _) fun env' he s' x => ?_
  subst he
  refine ⟨(T.nolimit.keeps F.keep).keeps x.toInCall.keep, codeAny_func ?_⟩
  obtain ⟨h₁, tk, rfl, _⟩ := x.done
  have hk₁ := x.toInCall.keep
  obtain ⟨cells, NC, Y⟩ := Cl.news (h₀ := s.heap) (Nat.le_refl _) fun n c hm => ⟨x.cell n c (lookup_of_mem_nodup (cellsFrom_names scope.names 0 (s.heap.objs.size + 1) [] [] rfl ▸ hnd) hm), x.above n c hm⟩
  refine wpAny_mono (h _ s.heap.objs.size h₁ tk cells (fun b o e n => hideAll_get _ e n) FG ⟨x.toInCall.ns, fun b o e => hk₁ b o (of_hideAll _ e), Nat.le_of_eq (hideAll_size _ _)⟩ (fun q hq => ?_) Y BG (X₀.keeps st) (T.keeps st) (fun q hq => Heap.lt_size (N q hq).1)) (fun fl s' hl => lv _ _ hl) fun _ _ y => y
  rcases List.mem_append.mp hq with hq | hq
  · refine ⟨(NC q hq).1, (NC q hq).2.1, ?_⟩
    cases e : (hideAll s.heap (news.map (·.1))).get? q.1 with
    | none => rfl
    | some o => have := of_hideAll _ e; rw [(NC q hq).2.2] at this; cases this
  · exact ⟨hk₁ _ _ (N q hq).1, Nat.ne_of_lt (Heap.lt_size (N q hq).1), hideAll_none _ (List.mem_map_of_mem hq)⟩

section
variable {prog : Program} {w : World} {A : Around} {h₀ : Heap} {L : Addr} {m : Str → Option Value} {env : PySem.Env} {elt : PySem.Expr} {x : Str} {scope : Scope} {cl : List (Str × Addr)} {s : Shared} {S : List (Addr × Obj) → Prop} {P : Nat → Value → Prop} {Fin : List Value → List (Addr × Obj) → Prop} {news : List (Addr × Obj)}
theorem comp_inv {n : Nat} (J : Nat → List Value → List (Addr × Obj) → Prop) (start : J 0 [] news)
    (turn : ∀ i ys nw v I oI C oC D m₂ h tk (E' : Value → Shared → Prop), i < n → J i ys nw → LCg.NsObj oC m₂ → m₂ x = some v → Fr h₀ L h m → News h₀ L h ((I, oI) :: (C, oC) :: (D, LCg.lst ys) :: nw) → LCg.Off3 I C D nw → ((@Ne Nat I C) ∧ (@Ne Nat I D) ∧ (@Ne Nat C D)) →
      wpAny (model prog w) A (eval elt (compEnvC scope cl C env)) (LCg.CompEnd h₀ L m { s with heap := h, toks := tk } I oI C oC D (LCg.lst ys) S (fun y news' => J (i + 1) (ys ++ [y]) news')) E' { s with heap := h, toks := tk })
    (fin : ∀ ys nw, J n ys nw → Fin ys nw) : LCg.CompRest prog w A h₀ L m env elt x scope cl s S P Fin n 0 [] news := by
  have key : ∀ (j i : Nat) (ys : List Value) (nw : List (Addr × Obj)), i + j = n → J i ys nw → LCg.CompRest prog w A h₀ L m env elt x scope cl s S P Fin j i ys nw := by
    intro j
    induction j with
    | zero =>
      intro i ys nw hi hJ
      have e : i = n := by omega
      subst e
      exact LCg.CompRest.zero (fin ys nw hJ)
    | succ j ih =>
      intro i ys nw hi hJ
      refine LCg.CompRest.succ ?_
      intro v I oI C oC D m₂ h tk E' _ hC hx F N off ne
      refine wpAny_mono (turn i ys nw v I oI C oC D m₂ h tk E' (by omega) hJ hC hx F N off ne) (fun y s₂ hq => ?_) fun _ _ e => e
      obtain ⟨h', tk', nw', e, F', N', off', hS, hJ'⟩ := hq
      exact ⟨h', tk', nw', e, F', N', off', hS, ih (i + 1) _ _ (by omega) hJ'⟩
  exact key n 0 [] news (by omega) start
end
/-- a turn of the drawing comprehension: one more int, the source turned -/
def TakeEnd (c : Addr) (oc : Obj) (src : Addr) (y : Value) (news' : List (Addr × Obj)) : Prop :=
  ∃ x t a ta b tb k, y = .int x t ∧ (-2 ≤ x ∧ x ≤ 9) ∧ SrcOk a b ∧ news' = [(c, oc), (src, listOf #[.int a ta, .int b tb] k)]
section
variable {prog : Program} {w : World} {A : Around} {h₀ : Heap} {L : Addr} {m : Str → Option Value} {env : PySem.Env} {elt : PySem.Expr} {x : Str} {scope : Scope} {cl : List (Str × Addr)} {s : Shared} {S : List (Addr × Obj) → Prop} {P : Nat → Value → Prop} {Fin : List Value → List (Addr × Obj) → Prop}
theorem comp_takes {n : Nat} {c src : Addr} {oc : Obj} {a b : Int} {ta tb : Tok} {k : Nat} (ok : SrcOk a b)
    (turn : ∀ ys a ta b tb k v I oI C oC D m₂ h tk (E' : Value → Shared → Prop), SrcOk a b → LCg.NsObj oC m₂ → m₂ x = some v → Fr h₀ L h m → News h₀ L h ((I, oI) :: (C, oC) :: (D, LCg.lst ys) :: [(c, oc), (src, listOf #[.int a ta, .int b tb] k)]) → LCg.Off3 I C D [(c, oc), (src, listOf #[.int a ta, .int b tb] k)] → ((@Ne Nat I C) ∧ (@Ne Nat I D) ∧ (@Ne Nat C D)) →
      wpAny (model prog w) A (eval elt (compEnvC scope cl C env)) (LCg.CompEnd h₀ L m { s with heap := h, toks := tk } I oI C oC D (LCg.lst ys) S (fun y news' => TakeEnd c oc src y news')) E' { s with heap := h, toks := tk })
    (fin : ∀ ys ts a ta b tb k, SrcOk a b → IntsAre ys ts → ts.length = n → (∀ t ∈ ts, -2 ≤ t ∧ t ≤ 9) → Fin ys [(c, oc), (src, listOf #[.int a ta, .int b tb] k)]) :
    LCg.CompRest prog w A h₀ L m env elt x scope cl s S P Fin n 0 [] [(c, oc), (src, listOf #[.int a ta, .int b tb] k)] := by
  refine comp_inv (fun i ys nw => ∃ a ta b tb k ts, nw = [(c, oc), (src, listOf #[.int a ta, .int b tb] k)] ∧ SrcOk a b ∧ IntsAre ys ts ∧ ts.length = i ∧ ∀ t ∈ ts, -2 ≤ t ∧ t ≤ 9) ⟨a, ta, b, tb, k, [], rfl, ok, .nil, rfl, fun _ h => nomatch h⟩ ?_ ?_
  · rintro i ys nw v I oI C oC D m₂ h tk E' _ ⟨a, ta, b, tb, k, ts, rfl, ok', hI, hl, hsm⟩ hC hx F N off ne
    refine wpAny_mono (turn ys a ta b tb k v I oI C oC D m₂ h tk E' ok' hC hx F N off ne) (fun y s₂ hq => ?_) fun _ _ e => e
    obtain ⟨h', tk', nw', e, F', N', off', hS, x', t', a', ta', b', tb', k', rfl, hx', ok2, rfl⟩ := hq
    refine ⟨h', tk', _, e, F', N', off', hS, a', ta', b', tb', k', ts ++ [x'], rfl, ok2, IntsAre.append hI (.cons _ _ .nil), by simp [hl], ?_⟩
    intro t ht
    rcases List.mem_append.mp ht with ht | ht
    · exact hsm t ht
    · rw [List.mem_singleton.mp ht]; exact hx'
  · rintro ys nw ⟨a, ta, b, tb, k, ts, rfl, ok', hI, hl, hsm⟩
    exact fin ys ts a ta b tb k ok' hI hl hsm
end
section
variable {prog : Program} {w : World} {A : Around} {E : Value → Shared → Prop} {s : Shared} {h₀ : Heap} {L l : Addr} {m : Str → Option Value} {news : List (Addr × Obj)}
def SetO (prog : Program) (w : World) (a : Addr) (o : Obj) (ks : List Int) : Prop := ∀ h : Heap, h.get? a = some o → SetS prog w h a ks
theorem set_list_N {vs : List Value} {ns : List Int} {Q : Value → Shared → Prop} (F : Fr h₀ L s.heap m) (N : News h₀ L s.heap news) (hh : A.handled = none) (hl : s.heap.IsList l vs.toArray) (hi : IntsAre vs ns) (hn : ns.length ≤ 6) (hsm : ∀ x ∈ ns, -2 ≤ x ∧ x ≤ 9)
    (h : ∀ a o h' tk, Fr h₀ L h' m → News h₀ L h' ((a, o) :: news) → (∀ q ∈ news, q.1 < a) → SetO prog w a o (ddl ns) → Q (.ref a) { s with heap := h', toks := tk }) :
    wpAny (model prog w) A (call (.type "set") [.ref l]) Q E s := by
  refine set_of_list hh hl (by simpa using hi) hn hsm fun h' tk hS hk => ?_
  obtain ⟨o, es, ep, t, ho, r⟩ := hS
  obtain ⟨oL, _, _, hL, _⟩ := F.ns
  have hLlt : L < s.heap.objs.size := Heap.lt_size hL
  refine h _ o h' tk ⟨F.ns.at' fun o' e => hk L o' hLlt e, fun b o' e => hk b o' (Heap.lt_size (F.keep b o' e)) (F.keep b o' e), F.above⟩ (fun p hp => ?_) (fun q hq => Heap.lt_size (N q hq).1) fun h2 e2 => ⟨o, es, ep, t, e2, r⟩
  rcases List.mem_cons.mp hp with rfl | hp
  · refine ⟨ho, Nat.ne_of_gt hLlt, ?_⟩
    cases hq : h₀.get? s.heap.objs.size with
    | none => rfl
    | some o' => exact absurd (Heap.lt_size (F.keep _ _ hq)) (Nat.lt_irrefl _)
  · exact ⟨hk _ _ (Heap.lt_size (N p hp).1) (N p hp).1, (N p hp).2.1, (N p hp).2.2⟩
theorem inc_of {ns ks : List Int} (hp : ns.Perm ks) (hd : ks.Nodup) (ho : ns.Pairwise (· ≤ ·)) : Inc ns := by
  have hn : ns.Nodup := hp.nodup_iff.mpr hd
  exact List.Pairwise.imp₂ (fun a b h1 h2 => by omega) ho hn
theorem sorted_set_N {a : Addr} {o : Obj} {ns : List Int} {Q : Value → Shared → Prop} (hh : A.handled = none) (F : Fr h₀ L s.heap m) (N : News h₀ L s.heap news) (hm : (a, o) ∈ news) (hO : SetO prog w a o (ddl ns)) (hn : ns.length ≤ 6)
    (h : ∀ D vs n xs h' tk, Fr h₀ L h' m → News h₀ L h' ((D, listOf (List.toArray vs) n) :: news) → (∀ q ∈ news, q.1 < D) → IntsAre vs xs → Inc xs → xs.length ≤ 6 → Q (.ref D) { s with heap := h', toks := tk }) :
    wpAny (model prog w) A (call (.builtin "sorted") [.ref a]) Q E s := by
  obtain ⟨d1, d2, d3⟩ := ddl_facts ns
  refine sorted_set hh F N (hO _ (N _ hm).1) (by omega) fun D vs n h' tk F' N' l1 hx => ?_
  obtain ⟨xs, hI, hp, ho⟩ := hx
  exact h D vs n xs h' tk F' N' l1 hI (inc_of hp d1 ho) (by rw [hp.length_eq]; omega)
end
local macro_rules | `(tactic| walk_at "my enterC") => `(tactic| (refine' code_subC ?k1 ?k2 ?k3 ?k4 ?k5 ?kA ?kF ?kK ?k6 ?k7 ?k8 ?k9 ?kB ?kD ?_ ?c2 ?c3 ?c4; (case kA => exact rfl); (case kF => exact rfl); (case kK => assumption); (case k1 => k_asm); (case k2 => k_asm); (case k3 => k_asm); (case k4 => k_asm); (case k5 => k_asm); (case k6 => k_is); (case k7 => k_is); (case k8 => ktr_room); (case k9 => walk_at "my binds"); (case kB => exact rfl); (case kD => decide +kernel); (case c2 => exact rfl); (case c3 => exact rfl); (case c4 => exact rfl); k_whole; intro g' L' h' tk' cells' KG' FG' F' N' Y' B' X' T' l1; (try k_lt l1); k_cells Y'; (try simp only [List.cons_append, List.nil_append] at N'); (try dsimp only); (try k_fold)))
local macro_rules | `(tactic| walk_at "CompSrc") => `(tactic| k_dflt (k_extra "my comp"))
local macro_rules | `(tactic| walk_at "call type:set cons nil") => `(tactic| k_extra "my call type:set cons nil")
local macro_rules | `(tactic| walk_at "call builtin:sorted") => `(tactic| k_extra "my call builtin:sorted")
theorem words22 : True := by
  k_with "my call type:set cons nil" => (first | ((k_here; (with_reducible show wpAny _ _ (call (Value.type "set") [Value.ref _]) _ _ _); k_dflt (refine set_list_N (by k_asm) (by k_asm) (by exact rfl) (by exact News.isList (by k_asm) (by k_mem)) (by assumption) (by omega) (by assumption) ?_; k_whole); intro wazw wozw whzw wtkzw wFzw wNzw wl1w whOw; (try k_lt wl1w); (try k_sweep))) | fail "no")
  k_with "my call builtin:sorted" => (first | ((k_here; (with_reducible show wpAny _ _ (call (Value.builtin "sorted") [Value.ref _]) _ _ _); k_dflt (refine sorted_set_N (by exact rfl) (by k_asm) (by k_asm) (by k_mem) (by assumption) (by omega) ?_; k_whole); intro wDzw wvzw wnzw wxzw whzw wtkzw wFzw wNzw wl1w whIw whIncw whLenw; (try k_lt wl1w); (try k_sweep))) | fail "no")
  trivial
def DueEnd (h₀ : Heap) (L : Addr) (s : Shared) (v v2 : Str) (m₀ : Str → Option Value) (dl : Addr) (r : List (Addr × Obj)) (ns : List Int) (f : Flow) (s₂ : Shared) : Prop :=
  f = .next ∧ ∃ h' tk' m' us n', s₂ = { s with heap := h', toks := tk' } ∧ Fr h₀ L h' m' ∧ (∀ z, z ≠ v → z ≠ v2 → m' z = m₀ z) ∧ News h₀ L h' ((dl, listOf (List.toArray us) n') :: r) ∧ IntsAre us ns
section
variable {prog : Program} {w : World} {A : Around} {E : Value → Shared → Prop} {s : Shared} {env : PySem.Env} {h₀ : Heap} {body : List Stmt} {Q : Flow → Shared → Prop}
theorem due_loop {v v2 : Str} (P : Int → Bool) {l dl : Addr} {vs : List Value} {ns : List Int} {nn n₀ : Nat} {m₀ : Str → Option Value} {rest : List (Addr × Obj)} (hne : ∀ p ∈ rest, p.1 ≠ dl)
    (hh : A.handled = none) (hl : (l, listOf vs.toArray nn) ∈ rest) (hi : IntsAre vs ns) (F : Fr h₀ env.locals s.heap m₀) (N : News h₀ env.locals s.heap ((dl, listOf (List.toArray []) n₀) :: rest))
    (turn : ∀ i k t us n' own h tk (u : Str → Option Value), ns[i]? = some k → us.length ≤ ns.length → IntsAre us ((ns.take i).filter P) → (∀ p ∈ own, @Ne Nat p.1 dl) →
      Fr h₀ env.locals h (fun y => if y = v then some (.int k t) else if y = v2 then u y else m₀ y) → News h₀ env.locals h ((dl, listOf (List.toArray us) n') :: (rest ++ own)) →
      wpAny (model prog w) A (execs body env) (DueEnd h₀ env.locals s v v2 m₀ dl (rest ++ own) ((ns.take i).filter P ++ if P k then [k] else [])) E { s with heap := h, toks := tk })
    (done : ∀ (u : Str → Option Value) us n' h tk, IntsAre us (ns.filter P) → Fr h₀ env.locals h (fun y => if y = v then u y else if y = v2 then u y else m₀ y) → News h₀ env.locals h ((dl, listOf (List.toArray us) n') :: rest) → Q .next { s with heap := h, toks := tk }) :
    wpAny (model prog w) A (pyIter (.ref l)) (fun it s₂ => LoopAtV prog w A h₀ env v body Q E it s₂) E s := by
  refine iter_invNL (fun i m nx => ∃ us n', nx = (dl, listOf (List.toArray us) n') :: rest ∧ IntsAre us ((ns.take i).filter P) ∧ ∀ z, z ≠ v → z ≠ v2 → m z = m₀ z) hh (.tail _ hl) hi F N ⟨[], n₀, rfl, .nil, fun _ _ _ => rfl⟩ ?_ ?_
  · rintro i k t m₁ nx h tk own hk _ hoff _ ⟨us, n', rfl, hI, hm⟩ F₁ N₁
    have em : (fun y => if y = v then some (Value.int k t) else m₁ y) = fun y => if y = v then some (.int k t) else if y = v2 then m₁ y else m₀ y := by
      funext y
      by_cases h1 : y = v
      · simp [h1]
      · by_cases h2 : y = v2
        · simp [h2]
        · simp only [if_neg h1, if_neg h2]; exact hm y h1 h2
    rw [em] at F₁
    have hlen : us.length ≤ ns.length := by
      rw [hI.length]
      exact Nat.le_trans (List.length_filter_le _ _) (by rw [List.length_take]; omega)
    refine wpAny_mono (turn i k t us n' own h tk m₁ hk hlen hI (fun p hp => hoff p hp dl (.head _)) F₁ N₁) (fun f s₂ hf => ?_) fun _ _ e => e
    obtain ⟨rfl, h', tk', m', us', n2, rfl, F', hm', N', hI'⟩ := hf
    refine InvEndN.intro (nx := (dl, listOf (List.toArray us') n2) :: rest) F' N' ⟨.tail _ hl, us', n2, rfl, ?_, hm'⟩ rfl ?_ ?_
    · rw [List.take_add_one, hk, List.filter_append]
      have : List.filter P (some k).toList = if P k then [k] else [] := by
        show List.filter P [k] = _
        rw [List.filter_cons]; rfl
      rw [this]; exact hI'
    · intro p hp
      rcases List.mem_cons.mp hp with rfl | hp
      · exact .head _
      · exact .tail _ (List.mem_append_left _ hp)
    · intro p hp
      exact .tail _ (List.mem_append_right _ hp)
  · rintro m₁ nx h tk _ ⟨us, n', rfl, hI, hm⟩ F₁ N₁
    rw [List.take_length] at hI
    refine done m₁ us n' h tk hI ?_ N₁
    have em : (fun y => if y = v then m₁ y else if y = v2 then m₁ y else m₀ y) = m₁ := by
      funext y
      by_cases h1 : y = v
      · simp [h1]
      · by_cases h2 : y = v2
        · simp [h2]
        · simp only [if_neg h1, if_neg h2]; exact (hm y h1 h2).symm
    rw [em]; exact F₁
noncomputable abbrev dueP (lo : Int) (li : Bool) (hi : Int) (hii : Bool) (r : Int) : Bool := (decide (lo < r) || (decide (r = lo) && li)) && (decide (r < hi) || (decide (r = hi) && hii))
theorem due_loop2 {v v2 : Str} {l dl lt ht : Addr} {lo hi : Int} {tlo thi : Tok} {li hii : Bool} {nlo nhi : Nat} {vs : List Value} {ns : List Int} {nn n₀ : Nat} {m₀ : Str → Option Value} {rest : List (Addr × Obj)} (hne : ∀ p ∈ (ht, pairOf hi thi hii nhi) :: (lt, pairOf lo tlo li nlo) :: rest, p.1 ≠ dl)
    (hh : A.handled = none) (hl : (l, listOf vs.toArray nn) ∈ (ht, pairOf hi thi hii nhi) :: (lt, pairOf lo tlo li nlo) :: rest) (hi' : IntsAre vs ns) (F : Fr h₀ env.locals s.heap m₀) (N : News h₀ env.locals s.heap ((dl, listOf (List.toArray []) n₀) :: (ht, pairOf hi thi hii nhi) :: (lt, pairOf lo tlo li nlo) :: rest))
    (turn : ∀ i k t us n' own h tk (u : Str → Option Value), ns[i]? = some k → us.length ≤ ns.length → IntsAre us ((ns.take i).filter (dueP lo li hi hii)) → (∀ p ∈ own, @Ne Nat p.1 dl) →
      Fr h₀ env.locals h (fun y => if y = v then some (.int k t) else if y = v2 then u y else m₀ y) → News h₀ env.locals h ((dl, listOf (List.toArray us) n') :: (ht, pairOf hi thi hii nhi) :: (lt, pairOf lo tlo li nlo) :: (rest ++ own)) →
      wpAny (model prog w) A (execs body env) (DueEnd h₀ env.locals s v v2 m₀ dl ((ht, pairOf hi thi hii nhi) :: (lt, pairOf lo tlo li nlo) :: (rest ++ own)) ((ns.take i).filter (dueP lo li hi hii) ++ if dueP lo li hi hii k then [k] else [])) E { s with heap := h, toks := tk })
    (done : ∀ (u : Str → Option Value) us n' h tk, IntsAre us (dueOf ns lo li hi hii) → Fr h₀ env.locals h (fun y => if y = v then u y else if y = v2 then u y else m₀ y) → News h₀ env.locals h ((dl, listOf (List.toArray us) n') :: (ht, pairOf hi thi hii nhi) :: (lt, pairOf lo tlo li nlo) :: rest) → Q .next { s with heap := h, toks := tk }) :
    wpAny (model prog w) A (pyIter (.ref l)) (fun it s₂ => LoopAtV prog w A h₀ env v body Q E it s₂) E s :=
  due_loop (dueP lo li hi hii) hne hh hl hi' F N turn done
end
theorem News.at_ {h₀ h : Heap} {L a : Addr} {news : List (Addr × Obj)} {o : Obj} (N : News h₀ L h news) (hm : (a, o) ∈ news) : h.get? a = some o := (N _ hm).1
theorem due_no {h₀ : Heap} {L : Addr} {s : Shared} {v v2 : Str} {m₀ m' : Str → Option Value} {dl : Addr} {r : List (Addr × Obj)} {ns : List Int} {b : Bool} {k : Int} {h' : Heap} {tk' : Nat} {us : List Value} {n' : Nat} (F : Fr h₀ L h' m') (hm : ∀ z, z ≠ v → z ≠ v2 → m' z = m₀ z) (I : IntsAre us ns) (N : News h₀ L h' ((dl, listOf (List.toArray us) n') :: r)) (hb : b = false) :
    DueEnd h₀ L s v v2 m₀ dl r (ns ++ if b then [k] else []) .next { s with heap := h', toks := tk' } := by
  subst hb
  exact ⟨rfl, h', tk', m', us, n', rfl, F, hm, N, by simpa using I⟩
theorem due_yes {h₀ : Heap} {L : Addr} {s : Shared} {v v2 : Str} {m₀ m' : Str → Option Value} {dl : Addr} {r : List (Addr × Obj)} {ns : List Int} {b : Bool} {k : Int} {t : Tok} {h' : Heap} {tk' : Nat} {us : List Value} {n' : Nat} (F : Fr h₀ L h' m') (hm : ∀ z, z ≠ v → z ≠ v2 → m' z = m₀ z) (I : IntsAre us ns) (N : News h₀ L h' ((dl, listOf (us.toArray.push (.int k t)) n') :: r)) (hb : b = true) :
    DueEnd h₀ L s v v2 m₀ dl r (ns ++ if b then [k] else []) .next { s with heap := h', toks := tk' } := by
  subst hb
  exact ⟨rfl, h', tk', m', us ++ [.int k t], n', rfl, F, hm, by simpa using N, IntsAre.append I (.cons _ _ .nil)⟩
theorem due_len {us : List Value} {xs : List Int} {lo hi : Int} {li hii : Bool} (_ : IntsAre us (dueOf xs lo li hi hii)) : (dueOf xs lo li hi hii).length ≤ xs.length := List.length_filter_le _ _
theorem due_walked {us : List Value} {xs : List Int} {lo hi : Int} {li hii bw : Bool} (inc : Inc xs) (h : IntsAre us (if bw then walkOf true xs hi hii lo li else walkOf false xs lo li hi hii)) : IntsAre us (if bw then (dueOf xs lo li hi hii).reverse else dueOf xs lo li hi hii) := by
  rw [walk_fwd inc, walk_bwd inc] at h
  exact h
theorem words23 : True := by
  k_with "my call ref" => (first | ((k_here; (with_reducible show wpAny _ _ (call (Value.ref 537) _) _ _ _); k_dflt (refine use_new (law_walk_con _ _ _ _ _ _ _ _ _ _ _ _ _ _ _) ⟨(by k_asm), (by k_asm), (by k_asm), (by k_asm), (by k_asm), (by first | exact rfl | assumption), (by ktr_room), (by ktr_units)⟩ (by walk_at "my sub") ⟨(by exact News.isList (by k_asm) (by k_mem)), (by assumption), (by assumption), (by omega), (by exact News.at_ (by k_asm) (by k_mem)), (by exact News.at_ (by k_asm) (by k_mem))⟩ ?_; k_whole); (rintro wvzw wnewzw whzw wtkzw wFzw wNzw - - ⟨wDzw, wuszw, wnzw, we1w, we2w, whWw⟩; subst we1w; subst we2w; (replace whWw := due_walked (by assumption) whWw); (simp only [if_true, if_false, Bool.false_eq_true] at whWw); (try simp only [List.cons_append, List.nil_append] at wNzw); (try k_sweep)))) | fail "no")
  k_with "my due" => (first | (first
  | exact due_no (by assumption) (fun z h1 h2 => by simp only [if_neg h1, if_neg h2]) (by assumption) (by assumption) (Bool.eq_false_iff.mpr (by simp only [dueP, ne_eq, Bool.and_eq_true, Bool.or_eq_true, decide_eq_true_eq, beq_iff_eq]; omega))
  | exact due_yes (by assumption) (fun z h1 h2 => by simp only [if_neg h1, if_neg h2]) (by assumption) (by assumption) (by simp only [dueP, Bool.and_eq_true, Bool.or_eq_true, decide_eq_true_eq, beq_iff_eq]; omega)) | fail "no")
  trivial
set_option maxHeartbeats 8000000 in
theorem law_right_con (w : World) (src : Addr) (a b : Int) (ta tb : Tok) (n : Nat) :
    Con w 542 8 80 [.ref src] [(src, listOf #[.int a ta, .int b tb] n)]
      (fun _ => SrcOk a b)
      (PUpd [(src, listOf #[.int a ta, .int b tb] n)] src (fun r o' new => new = [] ∧ r = .bool true ∧ ∃ a' ta' b' tb' n', SrcOk a' b' ∧ o' = listOf #[.int a' ta', .int b' tb'] n')) := by
  intro loose mean mg mb dp un gd cn cs aa ccd cl outer A₀ base h₀ L m s Q E ⟨B, F, X, N, T, k, hd, hu⟩ ok hret
  refine wpAny_call ?_
  k_dflt (walk_at "my enterC")
  k_with "my comp" => ((refine LCg.CompSrc.range (by rfl) (by k_asm) (by k_asm) (by assumption) (by exact small_one (by omega) (by omega) (by omega) (by omega)) (by exact rangeSize_nat _ _) (by rw [PySem.sizeLine_eq]; omega) ?_); intro g'; (refine' comp_takes ?cok ?cturn ?cfin); (case cok => assumption); (case' cturn => (intro ys a ta b tb k v I oI C oC D m₂ h tk E' ok' hC hx F' N' off' ne'; (simp only [LCg.Off3, and_true] at off'))); (case' cfin => (intro ys ts a ta b tb k ok' hI hl hsm; have hpool : ts.length ≤ 6 := by omega)))
  k_with "my loop" => ((rename Fr _ _ _ _ => lF'); (rename News _ _ _ _ => lN'); (with_unfolding_all refine' due_loop2 (v2 := Str.ofString "is_above") ?dn ?dh ?dl ?di lF' lN' ?dturn ?ddone); (case dh => rfl); (case dl => k_mem); (case di => assumption); (case dn => k_all); (clear lF' lN'); (case' ddone => (intro u us n' h tk hdI F' N'; have hdL := due_len hdI)); (case' dturn => (intro i k t us n' own h tk u hk hlen hI ho F' N'; (try simp only [List.cons_append, List.nil_append] at N'))); (all_goals (try k_fold)))
  k_steps
  all_goals first
    | walk_at "my due"
    | exact ⟨_, _, _, _, _, _, _, rfl, ⟨by omega, by omega⟩, by assumption, rfl⟩
    | exact hret _ _ _ _ (by assumption) (by assumption) (Kept.trans (by assumption) (Fr.keep (by assumption))) (fresh_of (by assumption) (by assumption)) ⟨_, [], ⟨rfl, rfl, _, _, _, _, _, by assumption, rfl⟩, by k_mem, (fun q hq h => by cases hq with | head => exact absurd rfl h | tail _ hq => exact nomatch hq), (fun _ h => nomatch h), (fun _ h => nomatch h)⟩
  k_with_none
theorem words25 : True := by
  k_with "my lt" => (first | (with_reducible first | exact And.left (by assumption) | exact (by assumption) | exact And.left (And.right (by assumption)) | exact (And.right (by assumption)) | exact And.left (And.right (And.right (by assumption))) | exact (And.right (And.right (by assumption))) | exact And.left (And.right (And.right (And.right (by assumption)))) | exact (And.right (And.right (And.right (by assumption)))) | exact And.left (And.right (And.right (And.right (And.right (by assumption))))) | exact (And.right (And.right (And.right (And.right (by assumption))))) | exact And.left (And.right (And.right (And.right (And.right (And.right (by assumption)))))) | exact (And.right (And.right (And.right (And.right (And.right (by assumption)))))) | exact And.left (And.right (And.right (And.right (And.right (And.right (And.right (by assumption))))))) | exact (And.right (And.right (And.right (And.right (And.right (And.right (by assumption))))))) | exact And.left (And.right (And.right (And.right (And.right (And.right (And.right (And.right (by assumption)))))))) | exact (And.right (And.right (And.right (And.right (And.right (And.right (And.right (by assumption)))))))) | exact And.left (And.right (And.right (And.right (And.right (And.right (And.right (And.right (And.right (by assumption))))))))) | exact (And.right (And.right (And.right (And.right (And.right (And.right (And.right (And.right (by assumption))))))))) | exact And.left (And.right (And.right (And.right (And.right (And.right (And.right (And.right (And.right (And.right (by assumption)))))))))) | exact (And.right (And.right (And.right (And.right (And.right (And.right (And.right (And.right (And.right (by assumption)))))))))) | exact And.left (And.right (And.right (And.right (And.right (And.right (And.right (And.right (And.right (And.right (And.right (by assumption))))))))))) | exact (And.right (And.right (And.right (And.right (And.right (And.right (And.right (And.right (And.right (And.right (by assumption))))))))))) | exact And.left (And.right (And.right (And.right (And.right (And.right (And.right (And.right (And.right (And.right (And.right (And.right (by assumption)))))))))))) | exact (And.right (And.right (And.right (And.right (And.right (And.right (And.right (And.right (And.right (And.right (And.right (by assumption)))))))))))) | exact And.left (And.right (And.right (And.right (And.right (And.right (And.right (And.right (And.right (And.right (And.right (And.right (And.right (by assumption))))))))))))) | exact (And.right (And.right (And.right (And.right (And.right (And.right (And.right (And.right (And.right (And.right (And.right (And.right (by assumption))))))))))))) | exact And.left (And.right (And.right (And.right (And.right (And.right (And.right (And.right (And.right (And.right (And.right (And.right (And.right (And.right (by assumption)))))))))))))) | exact (And.right (And.right (And.right (And.right (And.right (And.right (And.right (And.right (And.right (And.right (And.right (And.right (And.right (by assumption)))))))))))))) | exact And.left (And.right (And.right (And.right (And.right (And.right (And.right (And.right (And.right (And.right (And.right (And.right (And.right (And.right (And.right (by assumption))))))))))))))) | exact (And.right (And.right (And.right (And.right (And.right (And.right (And.right (And.right (And.right (And.right (And.right (And.right (And.right (And.right (by assumption))))))))))))))) | exact And.left (And.right (And.right (And.right (And.right (And.right (And.right (And.right (And.right (And.right (And.right (And.right (And.right (And.right (And.right (And.right (by assumption)))))))))))))))) | exact (And.right (And.right (And.right (And.right (And.right (And.right (And.right (And.right (And.right (And.right (And.right (And.right (And.right (And.right (And.right (by assumption)))))))))))))))) | exact And.left (And.right (And.right (And.right (And.right (And.right (And.right (And.right (And.right (And.right (And.right (And.right (And.right (And.right (And.right (And.right (And.right (by assumption))))))))))))))))) | exact (And.right (And.right (And.right (And.right (And.right (And.right (And.right (And.right (And.right (And.right (And.right (And.right (And.right (And.right (And.right (And.right (by assumption))))))))))))))))) | exact And.left (And.right (And.right (And.right (And.right (And.right (And.right (And.right (And.right (And.right (And.right (And.right (And.right (And.right (And.right (And.right (And.right (And.right (by assumption)))))))))))))))))) | exact (And.right (And.right (And.right (And.right (And.right (And.right (And.right (And.right (And.right (And.right (And.right (And.right (And.right (And.right (And.right (And.right (And.right (by assumption)))))))))))))))))) | exact And.left (And.right (And.right (And.right (And.right (And.right (And.right (And.right (And.right (And.right (And.right (And.right (And.right (And.right (And.right (And.right (And.right (And.right (And.right (by assumption))))))))))))))))))) | exact (And.right (And.right (And.right (And.right (And.right (And.right (And.right (And.right (And.right (And.right (And.right (And.right (And.right (And.right (And.right (And.right (And.right (And.right (by assumption))))))))))))))))))) | exact And.left (And.right (And.right (And.right (And.right (And.right (And.right (And.right (And.right (And.right (And.right (And.right (And.right (And.right (And.right (And.right (And.right (And.right (And.right (And.right (by assumption)))))))))))))))))))) | exact (And.right (And.right (And.right (And.right (And.right (And.right (And.right (And.right (And.right (And.right (And.right (And.right (And.right (And.right (And.right (And.right (And.right (And.right (And.right (by assumption)))))))))))))))))))) | exact And.left (And.right (And.right (And.right (And.right (And.right (And.right (And.right (And.right (And.right (And.right (And.right (And.right (And.right (And.right (And.right (And.right (And.right (And.right (And.right (And.right (by assumption))))))))))))))))))))) | exact And.left (And.right (And.right (And.right (And.right (And.right (And.right (And.right (And.right (And.right (And.right (And.right (And.right (And.right (And.right (And.right (And.right (And.right (And.right (And.right (And.right (And.right (by assumption)))))))))))))))))))))) | exact And.left (And.right (And.right (And.right (And.right (And.right (And.right (And.right (And.right (And.right (And.right (And.right (And.right (And.right (And.right (And.right (And.right (And.right (And.right (And.right (And.right (And.right (And.right (by assumption))))))))))))))))))))))) | exact And.left (And.right (And.right (And.right (And.right (And.right (And.right (And.right (And.right (And.right (And.right (And.right (And.right (And.right (And.right (And.right (And.right (And.right (And.right (And.right (And.right (And.right (And.right (And.right (by assumption)))))))))))))))))))))))) | exact And.left (And.right (And.right (And.right (And.right (And.right (And.right (And.right (And.right (And.right (And.right (And.right (And.right (And.right (And.right (And.right (And.right (And.right (And.right (And.right (And.right (And.right (And.right (And.right (And.right (by assumption))))))))))))))))))))))))) | exact And.left (And.right (And.right (And.right (And.right (And.right (And.right (And.right (And.right (And.right (And.right (And.right (And.right (And.right (And.right (And.right (And.right (And.right (And.right (And.right (And.right (And.right (And.right (And.right (And.right (And.right (by assumption)))))))))))))))))))))))))) | exact And.left (And.right (And.right (And.right (And.right (And.right (And.right (And.right (And.right (And.right (And.right (And.right (And.right (And.right (And.right (And.right (And.right (And.right (And.right (And.right (And.right (And.right (And.right (And.right (And.right (And.right (And.right (by assumption))))))))))))))))))))))))))) | exact And.left (And.right (And.right (And.right (And.right (And.right (And.right (And.right (And.right (And.right (And.right (And.right (And.right (And.right (And.right (And.right (And.right (And.right (And.right (And.right (And.right (And.right (And.right (And.right (And.right (And.right (And.right (And.right (by assumption)))))))))))))))))))))))))))) | exact And.left (And.right (And.right (And.right (And.right (And.right (And.right (And.right (And.right (And.right (And.right (And.right (And.right (And.right (And.right (And.right (And.right (And.right (And.right (And.right (And.right (And.right (And.right (And.right (And.right (And.right (And.right (And.right (And.right (by assumption))))))))))))))))))))))))))))) | exact And.left (And.right (And.right (And.right (And.right (And.right (And.right (And.right (And.right (And.right (And.right (And.right (And.right (And.right (And.right (And.right (And.right (And.right (And.right (And.right (And.right (And.right (And.right (And.right (And.right (And.right (And.right (And.right (And.right (And.right (by assumption))))))))))))))))))))))))))))))) | fail "no")
  k_with "my k_ne" => (first | ((refine neN ?_; (try dsimp only); first | (refine Nat.ne_of_lt ?_; walk_at "my lt") | (refine Nat.ne_of_gt ?_; walk_at "my lt") | walk_at "my lt" | (refine Ne.symm ?_; walk_at "my lt") | omega)) | fail "no")
  k_with "my binds" => (first | (first | exact BindsTo.of_eq (binds := [(_, _)]) rfl | exact BindsTo.of_eq (binds := [(_, _), (_, _)]) rfl | exact BindsTo.of_eq (binds := [(_, _), (_, _), (_, _)]) rfl | exact BindsTo.of_eq (binds := [(_, _), (_, _), (_, _), (_, _)]) rfl | exact BindsTo.of_eq rfl) | fail "no")
  k_with "my call ref" => (first | ((k_here; k_dflt (refine call_cls (by k_asm) (by k_asm) (by k_asm) (by k_is) (by k_is) (by k_is) ?_; k_whole; intro wxzw wdzw whzw wFzw wNzw wl1w wl2w; (try k_lt wl1w); (try k_lt2 wl2w); (try k_sweep)); k_dflt (walk_at "my nest"))) | fail "no")
  k_with "my sub" => (first | (repeat (first | exact List.forall_mem_nil _ | refine List.forall_mem_cons.mpr ⟨by k_mem, ?_⟩)) | fail "no")
  k_with "my call ref" => (first | ((k_here; (with_reducible show wpAny _ _ (call (Value.ref 509) _) _ _ _); k_dflt (refine use_upd (take_con _ _ _ _ _ _ _ _ _) ⟨(by k_asm), (by k_asm), (by k_asm), (by k_asm), (by k_asm), (by first | exact rfl | assumption), (by ktr_room), (by ktr_units)⟩ (by walk_at "my sub") (by k_updF) ⟨(by assumption), (by decide), (by decide)⟩ ?_; k_whole); (rintro wvzw wozw wnewzw whzw wtkzw wFzw wNzw - - ⟨we1w, wdzw, wtzw, wazw, wtazw, wbzw, wtbzw, wnzw, we2w, whd0w, whd1w, whsrcw, we3w⟩); subst we1w; subst we2w; subst we3w; (try simp only [List.nil_append] at wNzw); (try k_sweep))) | fail "no")
  k_with "my rows" => (first | (exact RowsAt.keep (by assumption) (Fr.keep (by k_asm))) | fail "no")
  k_with "my call builtin:len" => (first | ((k_here; (with_reducible show wpAny _ _ (call (Value.builtin "len") [Value.ref _]) _ _ _); k_dflt (refine rows_len (by k_asm) (by k_mem) (by assumption) (by omega) ?_; k_whole; intro wtzw wtkzw))) | fail "no")
  k_with "my arith" => (first | (first | omega | ((simp (disch := omega) only [Int.fdiv_eq_ediv_of_nonneg, Int.fmod_eq_emod_of_nonneg]); omega)) | fail "no")
  k_with "my call ref" => (first | ((k_here; (with_reducible show wpAny _ _ (call (Value.ref 178) _) _ _ _); k_dflt (refine use_new (place_con _ _ _ _ _ _ _ _ _ _ _ _ _ _) ⟨(by k_asm), (by k_asm), (by k_asm), (by k_asm), (by k_asm), (by first | exact rfl | assumption), (by ktr_room), (by ktr_units)⟩ (by walk_at "my sub") ⟨(by walk_at "my rows"), (by assumption), (by assumption)⟩ ?_; k_whole); (rintro wvzw wnewzw whzw wtkzw wFzw wNzw - - ⟨we1w, wtzw, we2w⟩); subst we1w; subst we2w; (try simp only [List.nil_append] at wNzw); (try k_sweep))) | fail "no")
  k_with "my call ref" => (first | ((k_here; (with_reducible show wpAny _ _ (call (Value.ref 262) _) _ _ _); k_dflt (refine use_new (valid_con _ _ _ _ _ _ _ _ _ _ _ _) ⟨(by k_asm), (by k_asm), (by k_asm), (by k_asm), (by k_asm), (by first | exact rfl | assumption), (by ktr_room), (by ktr_units)⟩ (by walk_at "my sub") ⟨(by walk_at "my rows"), (by assumption)⟩ ?_; k_whole); (rintro wvzw wnewzw whzw wtkzw wFzw wNzw - - ⟨we1w, we2w⟩); subst we1w; subst we2w; (try simp only [List.nil_append] at wNzw); (try k_sweep))) | fail "no")
  k_with "my tab post" => (first | (((rintro wvzw wozw wnewzw whzw wtkzw wFzw wNzw - - ⟨we1w, we2w, wtpzw, we3w⟩); subst we1w; subst we2w; subst we3w; (try simp only [List.nil_append] at wNzw); (try k_sweep))) | fail "no")
  k_with "my call ref" => (first | ((k_here; (with_reducible show wpAny _ _ (call (Value.ref 192) _) _ _ _); k_dflt (refine use_upd (stand_con _ _ _ _ _ _ _ _ _ _ _ _ _ _) ⟨(by k_asm), (by k_asm), (by k_asm), (by k_asm), (by k_asm), (by first | exact rfl | assumption), (by ktr_room), (by ktr_units)⟩ (by walk_at "my sub") (by k_updF) ⟨(by walk_at "my rows"), (by assumption)⟩ ?_; k_whole); walk_at "my tab post")) | fail "no")
  k_with "my call ref" => (first | ((k_here; (with_reducible show wpAny _ _ (call (Value.ref 234) _) _ _ _); k_dflt (refine use_upd (seek_ge_con _ _ _ _ _ _ _ _ _ _ _ _ _ _) ⟨(by k_asm), (by k_asm), (by k_asm), (by k_asm), (by k_asm), (by first | exact rfl | assumption), (by ktr_room), (by ktr_units)⟩ (by walk_at "my sub") (by k_updF) ⟨(by walk_at "my rows"), (by assumption), (by assumption)⟩ ?_; k_whole); walk_at "my tab post")) | fail "no")
  k_with "my call ref" => (first | ((k_here; (with_reducible show wpAny _ _ (call (Value.ref 241) _) _ _ _); k_dflt (refine use_upd (seek_gt_con _ _ _ _ _ _ _ _ _ _ _ _ _ _) ⟨(by k_asm), (by k_asm), (by k_asm), (by k_asm), (by k_asm), (by first | exact rfl | assumption), (by ktr_room), (by ktr_units)⟩ (by walk_at "my sub") (by k_updF) ⟨(by walk_at "my rows"), (by assumption), (by assumption)⟩ ?_; k_whole); walk_at "my tab post")) | fail "no")
  k_with "my call ref" => (first | ((k_here; (with_reducible show wpAny _ _ (call (Value.ref 248) _) _ _ _); k_dflt (refine use_upd (seek_le_con _ _ _ _ _ _ _ _ _ _ _ _ _ _) ⟨(by k_asm), (by k_asm), (by k_asm), (by k_asm), (by k_asm), (by first | exact rfl | assumption), (by ktr_room), (by ktr_units)⟩ (by walk_at "my sub") (by k_updF) ⟨(by walk_at "my rows"), (by assumption), (by assumption)⟩ ?_; k_whole); walk_at "my tab post")) | fail "no")
  k_with "my call ref" => (first | ((k_here; (with_reducible show wpAny _ _ (call (Value.ref 255) _) _ _ _); k_dflt (refine use_upd (seek_lt_con _ _ _ _ _ _ _ _ _ _ _ _ _ _) ⟨(by k_asm), (by k_asm), (by k_asm), (by k_asm), (by k_asm), (by first | exact rfl | assumption), (by ktr_room), (by ktr_units)⟩ (by walk_at "my sub") (by k_updF) ⟨(by walk_at "my rows"), (by assumption), (by assumption)⟩ ?_; k_whole); walk_at "my tab post")) | fail "no")
  k_with "my tab post2" => (first | (((rintro wvzw wozw wnewzw whzw wtkzw wFzw wNzw - - ⟨we1w, wpzw, whpzw, we2w, wtpzw, we3w⟩); subst we1w; subst we2w; subst we3w; (try simp only [List.nil_append] at wNzw); (try k_sweep))) | fail "no")
  k_with "my call ref" => (first | ((k_here; (with_reducible show wpAny _ _ (call (Value.ref 213) _) _ _ _); k_dflt (refine use_upd (next_con _ _ _ _ _ _ _ _ _ _ _ _) ⟨(by k_asm), (by k_asm), (by k_asm), (by k_asm), (by k_asm), (by first | exact rfl | assumption), (by ktr_room), (by ktr_units)⟩ (by walk_at "my sub") (by k_updF) ⟨(by walk_at "my rows"), (by assumption)⟩ ?_; k_whole); walk_at "my tab post2")) | fail "no")
  k_with "my tab post2" => (first | (((rintro wvzw wozw wnewzw whzw wtkzw wFzw wNzw - - ⟨we1w, wpzw, whpzw, we2w, wtpzw, we3w⟩); subst we1w; subst we2w; subst we3w; (try simp only [List.nil_append] at wNzw); (try k_sweep))) | fail "no")
  k_with "my call ref" => (first | ((k_here; (with_reducible show wpAny _ _ (call (Value.ref 220) _) _ _ _); k_dflt (refine use_upd (prev_con _ _ _ _ _ _ _ _ _ _ _ _) ⟨(by k_asm), (by k_asm), (by k_asm), (by k_asm), (by k_asm), (by first | exact rfl | assumption), (by ktr_room), (by ktr_units)⟩ (by walk_at "my sub") (by k_updF) ⟨(by walk_at "my rows"), (by assumption)⟩ ?_; k_whole); walk_at "my tab post2")) | fail "no")
  k_with "my call ref" => (first | ((k_here; (with_reducible show wpAny _ _ (call (Value.ref 269) _) _ _ _); k_dflt (refine use_new (ask_con _ _ _ _ _ _ _ _ _ _ _ _) ⟨(by k_asm), (by k_asm), (by k_asm), (by k_asm), (by k_asm), (by first | exact rfl | assumption), (by ktr_room), (by ktr_units)⟩ (by walk_at "my sub") ⟨(by walk_at "my rows"), (by assumption), (by omega), (by omega)⟩ ?_; k_whole); (rintro wvzw wnewzw whzw wtkzw wFzw wNzw - - ⟨we1w, we2w⟩); subst we1w; subst we2w; (try simp only [List.nil_append] at wNzw); (try k_sweep))) | fail "no")
  k_with "my call ref" => (first | ((k_here; (with_reducible show wpAny _ _ (call (Value.ref 276) _) _ _ _); k_dflt (refine use_new (rowid_con _ _ _ _ _ _ _ _ _ _ _ _) ⟨(by k_asm), (by k_asm), (by k_asm), (by k_asm), (by k_asm), (by first | exact rfl | assumption), (by ktr_room), (by ktr_units)⟩ (by walk_at "my sub") ⟨(by walk_at "my rows"), (by assumption), (by omega), (by omega)⟩ ?_; k_whole); (rintro wvzw wnewzw whzw wtkzw wFzw wNzw - - ⟨we1w, wtzw, we2w⟩); subst we1w; subst we2w; (try simp only [List.nil_append] at wNzw); (try k_sweep))) | fail "no")
  k_with "my call builtin:list.insert" => (first | ((k_here; (with_reducible show wpAny _ _ (call (Value.builtin _) [Value.ref _, Value.int _ _, _]) _ _ _); k_dflt (refine rows_ins (by k_asm) (by k_asm) (by k_upd) (by omega) (by omega) ?_; k_whole; intro whzw wFzw wNzw; (try k_sweep)))) | fail "no")
  k_with "my call ref" => (first | ((k_here; (with_reducible show wpAny _ _ (call (Value.ref 171) _) _ _ _); k_dflt (refine use_upd (insert_con _ _ _ _ _ _ _ _ _ _ _ _ _ _) ⟨(by k_asm), (by k_asm), (by k_asm), (by k_asm), (by k_asm), (by first | exact rfl | assumption), (by ktr_room), (by ktr_units)⟩ (by walk_at "my sub") (by k_updF) ⟨(by walk_at "my rows"), (by assumption), (by assumption), (by assumption)⟩ ?_; k_whole); (rintro wvzw wozw wnewzw whzw wtkzw wFzw wNzw - whneww ⟨we1w, wtazw, wttzw, wnnzw, wnzw, we2w, we3w⟩); subst we1w; subst we2w; subst we3w; (try simp only [List.nil_append, List.cons_append] at wNzw); (try k_sweep))) | fail "no")
  k_with "my call ref" => (first | ((k_here; (with_reducible show wpAny _ _ (call (Value.ref 28) _) _ _ _); k_dflt (refine use_new (seek_word_con _ _ _) ⟨(by k_asm), (by k_asm), (by k_asm), (by k_asm), (by k_asm), (by first | exact rfl | assumption), (by ktr_room), (by ktr_units)⟩ (by walk_at "my sub") (by trivial) ?_; k_whole); (rintro wvzw wnewzw whzw wtkzw wFzw wNzw - - ⟨we1w, wtzw, we2w⟩); subst we1w; subst we2w; (try simp only [List.nil_append] at wNzw); (try k_sweep))) | fail "no")
  k_with "my call ref" => (first | ((k_here; (with_reducible show wpAny _ _ (call (Value.ref 35) _) _ _ _); k_dflt (refine use_new (past_word_con _ _ _) ⟨(by k_asm), (by k_asm), (by k_asm), (by k_asm), (by k_asm), (by first | exact rfl | assumption), (by ktr_room), (by ktr_units)⟩ (by walk_at "my sub") (by trivial) ?_; k_whole); (rintro wvzw wnewzw whzw wtkzw wFzw wNzw - - ⟨we1w, wtzw, we2w⟩); subst we1w; subst we2w; (try simp only [List.nil_append] at wNzw); (try k_sweep))) | fail "no")
  k_with "my call ref" => (first | ((k_here; (with_reducible show wpAny _ _ (call (Value.ref 530) _) _ _ _); k_dflt (refine use_new (is_past_con _ _ _ _ _ _ _ _) ⟨(by k_asm), (by k_asm), (by k_asm), (by k_asm), (by k_asm), (by first | exact rfl | assumption), (by ktr_room), (by ktr_units)⟩ (by walk_at "my sub") (by trivial) ?_; k_whole); (rintro wvzw wnewzw whzw wtkzw wFzw wNzw - - ⟨we1w, we2w⟩); subst we1w; subst we2w; (try simp only [List.nil_append] at wNzw); (try k_sweep))) | fail "no")
  k_with "my call ref" => (first | ((k_here; (with_reducible show wpAny _ _ (call (Value.ref 523) _) _ _ _); k_dflt (refine use_upd (law_stand_con _ _ _ _ _ _ _ _ _ _ _ _ _ _ _ _ _) ⟨(by k_asm), (by k_asm), (by k_asm), (by k_asm), (by k_asm), (by first | exact rfl | assumption), (by ktr_room), (by ktr_units)⟩ (by walk_at "my sub") (by k_updF) ⟨(by walk_at "my rows"), (by assumption), (by assumption)⟩ ?_; k_whole); walk_at "my tab post")) | fail "no")
  k_with "my call builtin:list.append" => (first | ((k_here; (with_reducible show wpAny _ _ (call (Value.builtin _) [Value.ref _, Value.int _ _]) _ _ _); k_dflt (refine app_ints (by k_asm) (by k_asm) (by k_upd) (by assumption) ?_; k_whole); intro whzw wFzw wNzw; (try k_sweep))) | fail "no")
  k_with "my tail" => (first | ((intro wpw whpw; repeat (first | exact whpw | exact List.mem_append_left _ whpw | refine List.mem_cons_of_mem _ ?_))) | fail "no")
  k_with "my rows" => (first | (exact RowsIn.at (by assumption) (by k_asm) (by walk_at "my tail")) | fail "no")
  k_with "my sub2" => (first | (((repeat (refine List.forall_mem_cons.mpr ⟨by k_mem, ?_⟩)); walk_at "my tail")) | fail "no")
  k_with "my call type:set cons nil" => (first | ((k_here; (with_reducible show wpAny _ _ (call (Value.type "set") [Value.ref _]) _ _ _); k_dflt (refine set_list_N (by k_asm) (by k_asm) (by exact rfl) (by exact News.isList (by k_asm) (by k_mem)) (by assumption) (by omega) (by assumption) ?_; k_whole); intro wazw wozw whzw wtkzw wFzw wNzw wl1w whOw; (try k_lt wl1w); (try k_sweep))) | fail "no")
  k_with "my call builtin:sorted" => (first | ((k_here; (with_reducible show wpAny _ _ (call (Value.builtin "sorted") [Value.ref _]) _ _ _); k_dflt (refine sorted_set_N (by exact rfl) (by k_asm) (by k_asm) (by k_mem) (by assumption) (by omega) ?_; k_whole); intro wDzw wvzw wnzw wxzw whzw wtkzw wFzw wNzw wl1w whIw whIncw whLenw; (try k_lt wl1w); (try k_sweep))) | fail "no")
  k_with "my call ref" => (first | ((k_here; (with_reducible show wpAny _ _ (call (Value.ref 537) _) _ _ _); k_dflt (refine use_new (law_walk_con _ _ _ _ _ _ _ _ _ _ _ _ _ _ _) ⟨(by k_asm), (by k_asm), (by k_asm), (by k_asm), (by k_asm), (by first | exact rfl | assumption), (by ktr_room), (by ktr_units)⟩ (by walk_at "my sub") ⟨(by exact News.isList (by k_asm) (by k_mem)), (by assumption), (by assumption), (by omega), (by exact News.at_ (by k_asm) (by k_mem)), (by exact News.at_ (by k_asm) (by k_mem))⟩ ?_; k_whole); (rintro wvzw wnewzw whzw wtkzw wFzw wNzw - - ⟨wDzw, wuszw, wnzw, we1w, we2w, whWw⟩; subst we1w; subst we2w; (replace whWw := due_walked (by assumption) whWw); (simp only [if_true, if_false, Bool.false_eq_true] at whWw); (try simp only [List.cons_append, List.nil_append] at wNzw); (try k_sweep)))) | fail "no")
  k_with "my due" => (first | (first
  | exact due_no (by assumption) (fun z h1 h2 => by simp only [if_neg h1, if_neg h2]) (by assumption) (by assumption) (Bool.eq_false_iff.mpr (by simp only [dueP, ne_eq, Bool.and_eq_true, Bool.or_eq_true, decide_eq_true_eq, beq_iff_eq]; omega))
  | exact due_yes (by assumption) (fun z h1 h2 => by simp only [if_neg h1, if_neg h2]) (by assumption) (by assumption) (by simp only [dueP, Bool.and_eq_true, Bool.or_eq_true, decide_eq_true_eq, beq_iff_eq]; omega)) | fail "no")
  k_with "my call ref" => (first | ((k_here; (with_reducible show wpAny _ _ (call (Value.ref 542) _) _ _ _); k_dflt (refine use_upd (law_right_con _ _ _ _ _ _ _) ⟨(by k_asm), (by k_asm), (by k_asm), (by k_asm), (by k_asm), (by first | exact rfl | assumption), (by ktr_room), (by ktr_units)⟩ (by walk_at "my sub") (by k_updF) (by assumption) ?_; k_whole); (rintro wvzw wozw wnewzw whzw wtkzw wFzw wNzw - - ⟨we1w, we2w, wazw, wtazw, wbzw, wtbzw, wnzw, whokzw, we3w⟩; subst we1w; subst we2w; subst we3w; (try simp only [List.nil_append] at wNzw); (try k_sweep)))) | fail "no")
  trivial
theorem words24 : True := by
  k_with "my call ref" => (first | ((k_here; (with_reducible show wpAny _ _ (call (Value.ref 542) _) _ _ _); k_dflt (refine use_upd (law_right_con _ _ _ _ _ _ _) ⟨(by k_asm), (by k_asm), (by k_asm), (by k_asm), (by k_asm), (by first | exact rfl | assumption), (by ktr_room), (by ktr_units)⟩ (by walk_at "my sub") (by k_updF) (by assumption) ?_; k_whole); (rintro wvzw wozw wnewzw whzw wtkzw wFzw wNzw - - ⟨we1w, we2w, wazw, wtazw, wbzw, wtbzw, wnzw, whokzw, we3w⟩; subst we1w; subst we2w; subst we3w; (try simp only [List.nil_append] at wNzw); (try k_sweep)))) | fail "no")
  trivial
noncomputable def initF : FuncData := match fnAt (stIn pw 36 0) "Path.__init__" (.ref 376) "pagebase.paths" 667 382 with
  | ⟨_, _, .func f, _⟩ => f
  | _ => default
theorem news2 {h₀ h : Heap} {L a b : Addr} {o o' : Obj} {news : List (Addr × Obj)} (N : News h₀ L h news) (h1 : (a, o) ∈ news) (h2 : (b, o') ∈ news) : News h₀ L h [(a, o), (b, o')] := fun p hp => by
  rcases List.mem_cons.mp hp with rfl | hp
  · exact N _ h1
  · rw [List.mem_singleton.mp hp]; exact N _ h2
local macro_rules | `(tactic| walk_at "my init") => `(tactic| (refine' code_sub ?k1 ?k2 ?k3 ?k4 ?k5 ?kA ?kF ?kK ?k6 ?k7 ?k8 ?k9 ?kB ?_ ?c2 ?c3 ?c4 ?c5; (case kA => exact rfl); (case kF => exact rfl); (case kK => assumption); (case k1 => k_asm); (case k2 => k_asm); (case k3 => k_asm); (case k4 => k_asm); (case k5 => k_asm); (case k6 => k_is); (case k7 => k_is); (case k8 => ktr_room); (case k9 => assumption); (case c5 => decide); (case kB => exact locs rfl); (case c2 => exact rfl); (case c3 => exact rfl); (case c4 => exact rfl); k_whole; intro g' L' h' KG' FG' F' N' B' X' T' l1; (try k_lt l1); (try dsimp only); (try k_fold)))
set_option maxHeartbeats 4000000 in
theorem init_con (w : World) (x d0 : Addr) (kd : Str) (tk : Tok) (ixv : Value) (args : Args) (loose : List Str) (mean : ExcName → Option Value) (mg mb : Str → Option Value) (dp un : Nat) (gd : Option (List Code)) (cn : Str) (cs : Scope) (aa : Addr) (ccd : Value) (cl : List (Str × Addr)) (outer : List PySem.Env) (A₀ : Around) (base h₀ : Heap) (L : Addr) (m : Str → Option Value) (s : Shared) (R : Result → Shared → Prop)
    (Z : Env0 w loose mean mg mb dp un 1 8 gd cn cs aa ccd cl outer A₀ base h₀ L m s.heap [(x, instObj 407 d0), (d0, dictOf [] 0)]) (hxd : @LT.lt Nat _ d0 x)
    (hb : BindsTo s initF args [(Str.ofString "self", .ref x), (Str.ofString "kind", .str kd tk), (Str.ofString "index", ixv)])
    (ret : ∀ t0 t1 t2 t3 t4 t5 t6 t7 t8 t9 t10 t11 t12 t13 t14 E1 E2 rw co sub' h' tk', Fr h₀ L h' m → News h₀ L h' sub' → (∀ q ∈ [(x, instObj 407 d0), (d0, pathDict w.params t0 t1 t2 t3 t4 t5 t6 t7 t8 t9 t10 t11 t12 t13 t14 kd tk ixv E1 E2 false rw co), (E1, listOf #[] 0), (E2, listOf #[] 0)], q ∈ sub') → @LT.lt Nat _ E1 E2 → @LT.lt Nat _ x E1 →
      Kept s.heap h' [(x, instObj 407 d0), (d0, dictOf [] 0)] → Fresh s.heap [(x, instObj 407 d0), (d0, dictOf [] 0)] sub' → R (.ok (.ret .none)) { s with heap := h', toks := tk' }) :
    codeAny (model PySem.Challenge.rw_xw0238_01.row.prog w) (ktrTop dp un gd cn cs L aa ccd cl outer) (.call (.ref 383) args) R s := by
  obtain ⟨B, F, X, N, T, k, hd, hu⟩ := Z
  k_dflt (walk_at "my init")
  k_steps
  refine' ret _ _ _ _ _ _ _ _ _ _ _ _ _ _ _ _ _ _ _ _ _ _ (by assumption) (by assumption) ?m ?a ?b (Kept.trans (by assumption) (Fr.keep (by assumption))) (fresh_of (by assumption) (by assumption))
  case m => walk_at "my sub"
  case a => omega
  case b => omega
theorem use_init {w : World} {x d0 : Addr} {kd : Str} {tk : Tok} {ixv : Value} {args : Args} {loose : List Str} {mean : ExcName → Option Value} {mg mb : Str → Option Value} {dp un : Nat} {gd : Option (List Code)} {cn : Str} {cs : Scope} {aa : Addr} {ccd : Value} {cl : List (Str × Addr)} {outer : List PySem.Env} {A₀ : Around} {base h₀ : Heap} {L : Addr} {m : Str → Option Value} {s : Shared} {R : Result → Shared → Prop} {news : List (Addr × Obj)} {g : Obj → List (Addr × Obj)}
    (Z : Env0 w loose mean mg mb dp un 1 8 gd cn cs aa ccd cl outer A₀ base h₀ L m s.heap news) (h1 : (x, instObj 407 d0) ∈ news) (U : UpdF d0 (dictOf [] 0) news g) (hxd : @LT.lt Nat _ d0 x)
    (hb : BindsTo s initF args [(Str.ofString "self", .ref x), (Str.ofString "kind", .str kd tk), (Str.ofString "index", ixv)])
    (ret : ∀ t0 t1 t2 t3 t4 t5 t6 t7 t8 t9 t10 t11 t12 t13 t14 E1 E2 rw co h' tk', Fr h₀ L h' m → News h₀ L h' ((E1, listOf #[] 0) :: (E2, listOf #[] 0) :: g (pathDict w.params t0 t1 t2 t3 t4 t5 t6 t7 t8 t9 t10 t11 t12 t13 t14 kd tk ixv E1 E2 false rw co)) → (∀ p ∈ news, @Ne Nat p.1 E1 ∧ @Ne Nat p.1 E2) → @LT.lt Nat _ E1 E2 →
      R (.ok (.ret .none)) { s with heap := h', toks := tk' }) :
    codeAny (model PySem.Challenge.rw_xw0238_01.row.prog w) (ktrTop dp un gd cn cs L aa ccd cl outer) (.call (.ref 383) args) R s := by
  obtain ⟨pre, post, e1, e2, q1, q2⟩ := U.split
  have h2 : (d0, dictOf [] 0) ∈ news := by rw [e1]; simp
  have Ns := news2 Z.N h1 h2
  refine init_con w x d0 kd tk ixv args loose mean mg mb dp un gd cn cs aa ccd cl outer A₀ base h₀ L m s R ⟨Z.B, Z.F, Z.X, Ns, Z.T, Z.k, Z.d, Z.u⟩ hxd hb ?_
  intro t0 t1 t2 t3 t4 t5 t6 t7 t8 t9 t10 t11 t12 t13 t14 E1 E2 rw co sub' h' tk' F' N' hm hE hxE K' Fs
  have hx : ∀ q ∈ [(x, instObj 407 d0), (d0, dictOf [] 0)], q.1 ≠ d0 → q ∈ sub' := fun q hq hne => by
    rcases List.mem_cons.mp hq with rfl | hq
    · exact hm _ (.head _)
    · rw [List.mem_singleton.mp hq] at hne; exact absurd rfl hne
  have hn : ∀ q ∈ [(E1, listOf #[] 0), (E2, listOf #[] 0)], q ∈ sub' := fun q hq => by
    rcases List.mem_cons.mp hq with rfl | hq
    · exact hm _ (.tail _ (.tail _ (.head _)))
    · rw [List.mem_singleton.mp hq]; exact hm _ (.tail _ (.tail _ (.tail _ (.head _))))
  have N2 := after_upd (new := [(E1, listOf #[] 0), (E2, listOf #[] 0)]) Z.N Ns N' K' U hx (hm _ (.tail _ (.head _))) hn
  refine ret t0 t1 t2 t3 t4 t5 t6 t7 t8 t9 t10 t11 t12 t13 t14 E1 E2 rw co h' tk' F' N2 ?_ hE
  have hf := fresh_new Fs hn (fun q hq hq2 => by
    simp only [List.map_cons, List.map_nil, List.mem_cons, List.not_mem_nil, or_false] at hq hq2
    have a1 : @LT.lt Nat _ x E1 := hxE
    have a2 : @LT.lt Nat _ d0 x := hxd
    have a3 : @LT.lt Nat _ E1 E2 := hE
    rcases hq with rfl | rfl <;> rcases hq2 with e | e <;> (have e' : @Eq Nat _ _ := e; dsimp only at e'; omega))
  have hne := new_ne Z.N hf
  exact fun p hp => ⟨hne p hp _ (.head _), hne p hp _ (.tail _ (.head _))⟩
theorem w_call {C : Addr} {pos : List Value} : (Code.builtin "type.__call__" ⟨.ref C :: pos, []⟩).weight = 1 := by
  have h := depth_under_make { handled := none, depth := 0, frames := none, guards := none, units := 0 } C pos
  have e : (Around.under { handled := none, depth := 0, frames := none, guards := none, units := 0 } (Code.builtin "type.__call__" ⟨.ref C :: pos, []⟩)).depth = 0 + (Code.builtin "type.__call__" ⟨.ref C :: pos, []⟩).weight := rfl
  rw [e, Nat.zero_add] at h
  exact h
theorem u_call {a : Args} : (Code.builtin "type.__call__" a).cUnits = 1 := rfl
local macro_rules | `(tactic| walk_at "my nest") => `(tactic| k_extra "my nest")
theorem words26 : True := by
  k_with "my nest" => (first | (((with_reducible show codeAny _ _ (Code.call (Value.ref 383) _) _ _); (refine use_init ⟨(by k_asm), (by k_asm), (by k_asm), (by k_asm), (by k_asm), (by first | exact rfl | assumption), (by (simp only [w_call, depth_deeper, depth_caller]; first | omega | decide)), (by (simp only [u_call, units_deeper, units_caller]; first | omega | decide | (rw [cLine_is]; omega)))⟩ (by k_mem) (by k_updF) (by first | assumption | omega) (by first | exact BindsTo.of_eq rfl | exact binds_K (by k_in) rfl (by k_is) rfl rfl rfl) ?_); k_whole; (intro wt0w wt1w wt2w wt3w wt4w wt5w wt6w wt7w wt8w wt9w wt10w wt11w wt12w wt13w wt14w wE1w wE2w wrww wcow whzw wtkzw wFzw wNzw whnew whEw; (simp only [List.forall_mem_cons, List.not_mem_nil, false_implies, implies_true, and_true, and_assoc] at whnew); (refine ⟨rfl, ?_⟩); (try dsimp only); (try k_fold)))) | fail "no")
  trivial
noncomputable def indexF : FuncData := match fnAt (stIn pw 42 0) "Index.__init__" (.none) "pagebase.tables" 774 452 with
  | ⟨_, _, .func f, _⟩ => f
  | _ => default
set_option maxHeartbeats 4000000 in
theorem index_con (w : World) (x d0 : Addr) (nm : Str) (tn : Tok) (v1 v2 v3 v4 v5 v6 : Value) (args : Args) (loose : List Str) (mean : ExcName → Option Value) (mg mb : Str → Option Value) (dp un : Nat) (gd : Option (List Code)) (cn : Str) (cs : Scope) (aa : Addr) (ccd : Value) (cl : List (Str × Addr)) (outer : List PySem.Env) (A₀ : Around) (base h₀ : Heap) (L : Addr) (m : Str → Option Value) (s : Shared) (R : Result → Shared → Prop)
    (Z : Env0 w loose mean mg mb dp un 1 8 gd cn cs aa ccd cl outer A₀ base h₀ L m s.heap [(x, instObj 470 d0), (d0, dictOf [] 0)]) (hxd : @LT.lt Nat _ d0 x)
    (hb : BindsTo s indexF args [(Str.ofString "self", .ref x), (Str.ofString "name", .str nm tn), (Str.ofString "table", v1), (Str.ofString "root", v2), (Str.ofString "columns", v3), (Str.ofString "unique", v4), (Str.ofString "origin", v5), (Str.ofString "sql", v6)])
    (ret : ∀ u0 u1 u2 u3 u4 u5 u6 sub' h' tk', Fr h₀ L h' m → News h₀ L h' sub' → (∀ q ∈ [(x, instObj 470 d0), (d0, indexDict w.params u0 u1 u2 u3 u4 u5 u6 nm tn v1 v2 v3 v4 v5 v6)], q ∈ sub') →
      Kept s.heap h' [(x, instObj 470 d0), (d0, dictOf [] 0)] → R (.ok (.ret .none)) { s with heap := h', toks := tk' }) :
    codeAny (model PySem.Challenge.rw_xw0238_01.row.prog w) (ktrTop dp un gd cn cs L aa ccd cl outer) (.call (.ref 453) args) R s := by
  obtain ⟨B, F, X, N, T, k, hd, hu⟩ := Z
  k_dflt (walk_at "my init")
  k_steps
  refine' ret _ _ _ _ _ _ _ _ _ _ (by assumption) (by assumption) ?m (Kept.trans (by assumption) (Fr.keep (by assumption)))
  case m => walk_at "my sub"
theorem use_index {w : World} {x d0 : Addr} {nm : Str} {tn : Tok} {v1 v2 v3 v4 v5 v6 : Value} {args : Args} {loose : List Str} {mean : ExcName → Option Value} {mg mb : Str → Option Value} {dp un : Nat} {gd : Option (List Code)} {cn : Str} {cs : Scope} {aa : Addr} {ccd : Value} {cl : List (Str × Addr)} {outer : List PySem.Env} {A₀ : Around} {base h₀ : Heap} {L : Addr} {m : Str → Option Value} {s : Shared} {R : Result → Shared → Prop} {news : List (Addr × Obj)} {g : Obj → List (Addr × Obj)}
    (Z : Env0 w loose mean mg mb dp un 1 8 gd cn cs aa ccd cl outer A₀ base h₀ L m s.heap news) (h1 : (x, instObj 470 d0) ∈ news) (U : UpdF d0 (dictOf [] 0) news g) (hxd : @LT.lt Nat _ d0 x)
    (hb : BindsTo s indexF args [(Str.ofString "self", .ref x), (Str.ofString "name", .str nm tn), (Str.ofString "table", v1), (Str.ofString "root", v2), (Str.ofString "columns", v3), (Str.ofString "unique", v4), (Str.ofString "origin", v5), (Str.ofString "sql", v6)])
    (ret : ∀ u0 u1 u2 u3 u4 u5 u6 h' tk', Fr h₀ L h' m → News h₀ L h' (g (indexDict w.params u0 u1 u2 u3 u4 u5 u6 nm tn v1 v2 v3 v4 v5 v6)) → R (.ok (.ret .none)) { s with heap := h', toks := tk' }) :
    codeAny (model PySem.Challenge.rw_xw0238_01.row.prog w) (ktrTop dp un gd cn cs L aa ccd cl outer) (.call (.ref 453) args) R s := by
  obtain ⟨pre, post, e1, e2, q1, q2⟩ := U.split
  have h2 : (d0, dictOf [] 0) ∈ news := by rw [e1]; simp
  have Ns := news2 Z.N h1 h2
  refine index_con w x d0 nm tn v1 v2 v3 v4 v5 v6 args loose mean mg mb dp un gd cn cs aa ccd cl outer A₀ base h₀ L m s R ⟨Z.B, Z.F, Z.X, Ns, Z.T, Z.k, Z.d, Z.u⟩ hxd hb ?_
  intro u0 u1 u2 u3 u4 u5 u6 sub' h' tk' F' N' hm K'
  have hx : ∀ q ∈ [(x, instObj 470 d0), (d0, dictOf [] 0)], q.1 ≠ d0 → q ∈ sub' := fun q hq hne => by
    rcases List.mem_cons.mp hq with rfl | hq
    · exact hm _ (.head _)
    · rw [List.mem_singleton.mp hq] at hne; exact absurd rfl hne
  have N2 := after_upd (new := []) Z.N Ns N' K' U hx (hm _ (.tail _ (.head _))) (fun _ h => nomatch h)
  exact ret u0 u1 u2 u3 u4 u5 u6 h' tk' F' N2
theorem words27 : True := by
  k_with "my nest" => (first | (((with_reducible show codeAny _ _ (Code.call (Value.ref 453) _) _ _); (refine use_index ⟨(by k_asm), (by k_asm), (by k_asm), (by k_asm), (by k_asm), (by first | exact rfl | assumption), (by (simp only [w_call, depth_deeper, depth_caller]; first | omega | decide)), (by (simp only [u_call, units_deeper, units_caller]; first | omega | decide | (rw [cLine_is]; omega)))⟩ (by k_mem) (by k_updF) (by first | assumption | omega) (by exact BindsTo.of_eq rfl) ?_); k_whole; (intro wu0w wu1w wu2w wu3w wu4w wu5w wu6w whzw wtkzw wFzw wNzw; (refine ⟨rfl, ?_⟩); (try dsimp only); (try k_fold)))) | fail "no")
  trivial
set_option maxHeartbeats 4000000 in
theorem nip_con (w : World) (ix hd : Addr) (n : Nat) (cov : Bool) :
    Con w 425 4 40 [.ref ix, .ref hd, .bool cov] [(hd, listOf #[] n)] (fun _ => True)
      (PNew [(hd, listOf #[] n)] (fun v new => ∃ pa dx t0 t1 t2 t3 t4 t5 t6 t7 t8 t9 t10 t11 t12 t13 t14 tk E1 E2 rw co n1 n2, v = .ref pa ∧ new = [(pa, instObj 407 dx), (dx, pathDict w.params t0 t1 t2 t3 t4 t5 t6 t7 t8 t9 t10 t11 t12 t13 t14 (Str.ofString "index") tk (.ref ix) E1 E2 cov rw co), (E1, listOf #[] n1), (E2, listOf #[] n2)] ∧ (@LT.lt Nat _ dx pa ∧ @Ne Nat pa E1 ∧ @Ne Nat pa E2 ∧ @Ne Nat dx E1 ∧ @Ne Nat dx E2 ∧ @LT.lt Nat _ E1 E2))) := by
  intro loose mean mg mb dp un gd cn cs aa ccd cl outer A₀ base h₀ L m s Q E ⟨B, F, X, N, T, k, hd, hu⟩ _ hret
  refine wpAny_call ?_
  k_dflt (walk_at "my enter")
  k_steps
  refine' hret _ _ _ _ (by assumption) (by assumption) (Kept.trans (by assumption) (Fr.keep (by assumption))) (fresh_of (by assumption) (by assumption)) ⟨_, ⟨_, _, _, _, _, _, _, _, _, _, _, _, _, _, _, _, _, _, _, _, _, _, _, _, rfl, rfl, ?o⟩, ?a, ?b, ?c⟩
  case b => walk_at "my sub"
  case a => walk_at "my sub"
  case o => omega
  case c => (intro q hq hm; simp only [List.map_cons, List.map_nil, List.mem_cons, List.not_mem_nil, or_false] at hq hm; rcases hq with rfl | rfl | rfl | rfl <;> (have e' : @Eq Nat _ _ := hm; dsimp only at e'; omega))
theorem words28 : True := by
  k_with "my call ref" => (first | ((k_here; (with_reducible show wpAny _ _ (call (Value.ref 425) _) _ _ _); k_dflt (refine use_new (nip_con _ _ _ _ _) ⟨(by k_asm), (by k_asm), (by k_asm), (by k_asm), (by k_asm), (by first | exact rfl | assumption), (by ktr_room), (by ktr_units)⟩ (by walk_at "my sub") trivial ?_; k_whole); (rintro wvzw wnewzw whzw wtkzw wFzw wNzw - whnew ⟨wpazw, wdxzw, wt0w, wt1w, wt2w, wt3w, wt4w, wt5w, wt6w, wt7w, wt8w, wt9w, wt10w, wt11w, wt12w, wt13w, wt14w, wtkw, wE1w, wE2w, wrww, wcow, wn1w, wn2w, we1w, we2w, whow⟩; subst we1w; subst we2w; (simp only [List.forall_mem_cons, List.not_mem_nil, false_implies, implies_true, and_true, and_assoc] at whnew); (try simp only [List.cons_append, List.nil_append] at wNzw); (try k_sweep)))) | fail "no")
  trivial

theorem pool_ok (x y : Int) (p : Prop) [Decidable p] : SrcOk ((if -1 - x > x then -1 - x else x) * if p then 1 else 0) (y.fmod 2147483647) := by
  refine ⟨?_, Int.fmod_nonneg_of_pos _ (by decide), Int.fmod_lt_of_pos _ (by decide)⟩
  split <;> split <;> omega
set_option maxHeartbeats 8000000 in
theorem law_pool_con (w : World) (l : Addr) (vs : List Value) (ns : List Int) (k : Int) (tk : Tok) :
    Con w 502 2 16 [.ref l, .int k tk] [] (fun h => h.IsList l vs.toArray ∧ IntsAre vs ns ∧ ns.length ≤ 63 ∧ 0 ≤ k ∧ k ≤ 1)
      (PNew [] (fun v new => ∃ D a ta b tb n, v = .ref D ∧ new = [(D, listOf #[.int a ta, .int b tb] n)] ∧ SrcOk a b)) := by
  intro loose mean mg mb dp un gd cn cs aa ccd cl outer A₀ base h₀ L m s Q E ⟨B, F, X, N, T, k, hd, hu⟩ ⟨hl, hin, hlen, hk0, hk1⟩ hret
  refine wpAny_call ?_
  k_dflt (walk_at "my enter")
  rename Kept _ _ _ => KG
  have hlg := hl.at fun o e => KG _ _ e (fun h => nomatch h)
  clear hl
  k_steps
  all_goals refine hret _ _ _ _ (by assumption) (by assumption) (Kept.trans (by assumption) (Fr.keep (by assumption))) (fresh_of (by assumption) (by assumption)) ⟨_, ⟨_, _, _, _, _, _, rfl, rfl, pool_ok _ _ _⟩, (fun _ h => nomatch h), (fun _ h => h), (fun _ _ h => nomatch h)⟩
theorem words29 : True := by
  k_with "my call ref" => (first | ((k_here; (with_reducible show wpAny _ _ (call (Value.ref 502) _) _ _ _); k_dflt (refine use_new (law_pool_con _ _ _ _ _ _) ⟨(by k_asm), (by k_asm), (by k_asm), (by k_asm), (by k_asm), (by first | exact rfl | assumption), (by ktr_room), (by ktr_units)⟩ (by walk_at "my sub") ⟨(by kmk_list), (by assumption), (by omega), (by omega), (by omega)⟩ ?_; k_whole); (rintro wvzw wnewzw whzw wtkzw wFzw wNzw - - ⟨wDzw, wazw, wtazw, wbzw, wtbzw, wnzw, we1w, we2w, whokzw⟩; subst we1w; subst we2w; (try simp only [List.cons_append, List.nil_append] at wNzw); (try k_sweep)))) | fail "no")
  trivial

set_option maxHeartbeats 8000000 in
theorem law_one_con (w : World) (src l : Addr) (a b : Int) (ta tb : Tok) (n : Nat) (x y : Str) (tx ty : Tok) (n2 : Nat) :
    Con w 516 3 40 [.ref src, .ref l] [(l, listOf #[.str x tx, .str y ty] n2), (src, listOf #[.int a ta, .int b tb] n)]
      (fun _ => SrcOk a b ∧ @LT.lt Nat _ src l)
      (PUpd [(l, listOf #[.str x tx, .str y ty] n2), (src, listOf #[.int a ta, .int b tb] n)] src (fun r o' new => new = [] ∧ ∃ nm t a' ta' b' tb' n', r = .str nm t ∧ (nm = x ∨ nm = y) ∧ SrcOk a' b' ∧ o' = listOf #[.int a' ta', .int b' tb'] n')) := by
  intro loose mean mg mb dp un gd cn cs aa ccd cl outer A₀ base h₀ L m s Q E ⟨B, F, X, N, T, k, hd, hu⟩ ⟨ok, hlt⟩ hret
  refine wpAny_call ?_
  k_dflt (walk_at "my enter")
  k_steps
  all_goals refine hret _ _ _ _ (by assumption) (by assumption) (Kept.trans (by assumption) (Fr.keep (by assumption))) (fresh_of (by assumption) (by assumption)) ?_
  · exact ⟨_, [], ⟨rfl, _, _, _, _, _, _, _, rfl, .inl rfl, by assumption, rfl⟩, by k_mem, (fun q hq h => by simp only [List.mem_cons, List.not_mem_nil, or_false] at hq; rcases hq with rfl | rfl <;> first | exact .head _ | exact absurd rfl h), (fun _ h => nomatch h), (fun _ h => nomatch h)⟩
  · exact ⟨_, [], ⟨rfl, _, _, _, _, _, _, _, rfl, .inr rfl, by assumption, rfl⟩, by k_mem, (fun q hq h => by simp only [List.mem_cons, List.not_mem_nil, or_false] at hq; rcases hq with rfl | rfl <;> first | exact .head _ | exact absurd rfl h), (fun _ h => nomatch h), (fun _ h => nomatch h)⟩
theorem words30 : True := by
  k_with "my call ref" => (first | ((k_here; (with_reducible show wpAny _ _ (call (Value.ref 516) _) _ _ _); k_dflt (refine use_upd (law_one_con _ _ _ _ _ _ _ _ _ _ _ _ _) ⟨(by k_asm), (by k_asm), (by k_asm), (by k_asm), (by k_asm), (by first | exact rfl | assumption), (by ktr_room), (by ktr_units)⟩ (by walk_at "my sub") (by k_updF) ⟨(by assumption), (by first | assumption | omega)⟩ ?_; k_whole); (rintro wvzw wozw wnewzw whzw wtkzw wFzw wNzw - - ⟨we1w, wnmzw, wtzw, wazw, wtazw, wbzw, wtbzw, wnzw, we2w, whnmw, whsrcw, we3w⟩); subst we1w; subst we2w; subst we3w; (try simp only [List.nil_append] at wNzw); (try k_sweep))) | fail "no")
  trivial
theorem fresh1 {new : List (Addr × Obj)} {src : Addr} {o : Obj} (h : ∀ q ∈ new, @Ne Nat q.1 src) : ∀ q ∈ new, q.1 ∉ [(src, o)].map (·.1) := fun q hq hm => h q hq (List.mem_singleton.mp hm)
theorem low_fits {nm : Str} (h : nm = Str.ofString "Ab" ∨ nm = Str.ofString "other") : Builtin.Str.tooLong (Txt.lower nm).length = false := by rcases h with rfl | rfl <;> decide +kernel
section
variable {prog : Program} {w : World} {A : Around} {E : Value → Shared → Prop} {s : Shared} {h₀ : Heap} {L : Addr} {m : Str → Option Value} {news : List (Addr × Obj)} {Q : Value → Shared → Prop}
theorem pick3 {value slice : PySem.Expr} {l : Addr} {a b c : Str} {ta tb tc : Tok} {n : Nat} {k : Int} {u : Tok} (N : News h₀ L s.heap news) (hm : (l, listOf #[.str a ta, .str b tb, .str c tc] n) ∈ news) (h0 : 0 ≤ k) (h1 : k < 3)
    (h : ∀ nm t, (k = 0 ∧ nm = a ∨ k = 1 ∧ nm = b ∨ k = 2 ∧ nm = c) → Q (.str nm t) s)
    (hs : subscripted slice false (.ref l) (.int k u) = operate [.ref l, .int k u] (getItem (.ref l) (.int k u)) := by with_unfolding_all rfl) :
    wpAny (model prog w) A (subscriptTail value slice (.ref l) (.int k u)) Q E s :=
  pickK (vs := [.str a ta, .str b tb, .str c tc]) (N.isList hm) h0 (by simpa using h1) (by omega) ⟨fun e => h _ _ (.inl ⟨e, rfl⟩), fun e => h _ _ (.inr (.inl ⟨e, rfl⟩)), fun e => h _ _ (.inr (.inr ⟨e, rfl⟩)), trivial⟩ hs
end
local macro_rules | `(tactic| walk_at "subscriptTail") => `(tactic| k_extra "my subscriptTail")
local macro_rules | `(tactic| walk_at "call builtin:str.lower") => `(tactic| k_extra "my call builtin:str.lower")
theorem words31 : True := by
  k_with "my subscriptTail" => (first | ((k_here; (with_reducible show wpAny _ _ (subscriptTail _ _ (Value.ref _) (Value.int _ _)) _ _ _); k_dflt (refine pick3 (by k_asm) (by k_mem) (by assumption) (by assumption) ?_ (by with_unfolding_all rfl); k_whole); intro wnmzw wtzw whkdzw)) | fail "no")
  k_with "my call builtin:str.lower" => (first | ((k_here; (with_reducible show wpAny _ _ (call (Value.builtin "str.lower") [Value.str _ _]) _ _ _); k_dflt (refine PySem.W.KXw.lower (Eq.refl _) (by exact low_fits (by assumption)) ?_; k_whole); intro wtzw wtkzw)) | fail "no")
  k_with "my fresh" => (first | (k_dflt (refine fresh1 ?_; repeat (first | exact List.forall_mem_nil _ | refine List.forall_mem_cons.mpr ⟨by (dsimp only; omega), ?_⟩))) | fail "no")
  trivial
set_option maxHeartbeats 8000000 in
theorem law_path_con (w : World) (src : Addr) (a b : Int) (ta tb : Tok) (n : Nat) :
    Con w 549 6 64 [.ref src] [(src, listOf #[.int a ta, .int b tb] n)]
      (fun _ => SrcOk a b)
      (PUpd [(src, listOf #[.int a ta, .int b tb] n)] src (fun r o' new => ∃ D pa wd t ix led cov sub, r = .ref D ∧ new = (D, tup4 pa wd t led cov) :: sub ∧ PathAt w.params pa wd ix led cov sub ∧ ∃ a' ta' b' tb' n', SrcOk a' b' ∧ o' = listOf #[.int a' ta', .int b' tb'] n')) := by
  intro loose mean mg mb dp un gd cn cs aa ccd cl outer A₀ base h₀ L m s Q E ⟨B, F, X, N, T, k, hd, hu⟩ ok hret
  refine wpAny_call ?_
  k_dflt (walk_at "my enter")
  k_steps
  all_goals refine hret _ _ _ _ (by assumption) (by assumption) (Kept.trans (by assumption) (Fr.keep (by assumption))) (fresh_of (by assumption) (by assumption)) ?_
  · refine' ⟨_, _, ⟨_, _, _, _, _, _, _, _, rfl, rfl, .plain _ _ _ _ _ _ _ _ _ _ _ _ _ _ _ _ _ _ _ _ _ _ _ _ ?hk, _, _, _, _, _, by assumption, rfl⟩, ?hm, (fun q hq h => by cases hq with | head => exact absurd rfl h | tail _ hq => exact nomatch hq), ?hs, ?hf⟩
    case hs => walk_at "my sub"
    case hm => k_mem
    case hf => walk_at "my fresh"
    case hk => (rename _ ∨ _ ∨ _ => hkd; (rcases hkd with ⟨e, rfl⟩ | ⟨e, rfl⟩ | ⟨e, rfl⟩) <;> first | exact .inl ⟨rfl, rfl⟩ | exact .inr ⟨.inl rfl, rfl⟩ | exact .inr ⟨.inr rfl, rfl⟩ | (exfalso; omega))
  · refine' ⟨_, _, ⟨_, _, _, _, _, _, _, _, rfl, rfl, .plain _ _ _ _ _ _ _ _ _ _ _ _ _ _ _ _ _ _ _ _ _ _ _ _ ?hk, _, _, _, _, _, by assumption, rfl⟩, ?hm, (fun q hq h => by cases hq with | head => exact absurd rfl h | tail _ hq => exact nomatch hq), ?hs, ?hf⟩
    case hs => walk_at "my sub"
    case hm => k_mem
    case hf => walk_at "my fresh"
    case hk => (rename _ ∨ _ ∨ _ => hkd; (rcases hkd with ⟨e, rfl⟩ | ⟨e, rfl⟩ | ⟨e, rfl⟩) <;> first | exact .inl ⟨rfl, rfl⟩ | exact .inr ⟨.inl rfl, rfl⟩ | exact .inr ⟨.inr rfl, rfl⟩ | (exfalso; omega))
  · refine' ⟨_, _, ⟨_, _, _, _, _, _, _, _, rfl, rfl, .index _ _ _ _ _ _ _ _ _ _ _ _ _ _ _ _ _ _ _ _ _ _ _ _ _ _ _ _ _ _ _ _ _ _ _ _ _ _ _ _ _ _ ?hn ?he, _, _, _, _, _, by assumption, rfl⟩, ?hm, (fun q hq h => by cases hq with | head => exact absurd rfl h | tail _ hq => exact nomatch hq), ?hs, ?hf⟩
    case hs => walk_at "my sub"
    case hm => k_mem
    case hf => walk_at "my fresh"
    case hn => assumption
    case he => first | exact .inl ⟨beq_eq_false_iff_ne.mpr (by assumption), rfl⟩ | exact .inr ⟨beq_iff_eq.mpr (by assumption), _, rfl⟩
  · refine' ⟨_, _, ⟨_, _, _, _, _, _, _, _, rfl, rfl, .index _ _ _ _ _ _ _ _ _ _ _ _ _ _ _ _ _ _ _ _ _ _ _ _ _ _ _ _ _ _ _ _ _ _ _ _ _ _ _ _ _ _ ?hn ?he, _, _, _, _, _, by assumption, rfl⟩, ?hm, (fun q hq h => by cases hq with | head => exact absurd rfl h | tail _ hq => exact nomatch hq), ?hs, ?hf⟩
    case hs => walk_at "my sub"
    case hm => k_mem
    case hf => walk_at "my fresh"
    case hn => assumption
    case he => first | exact .inl ⟨beq_eq_false_iff_ne.mpr (by assumption), rfl⟩ | exact .inr ⟨beq_iff_eq.mpr (by assumption), _, rfl⟩
section
open PyProof.Rows PySem.Calls
variable {prog : Program} {w : World} {A : Around} {E : Value → Shared → Prop} {s : Shared} {h₀ : Heap} {L : Addr} {m : Str → Option Value} {env : PySem.Env}
theorem str_st {I : Addr} {T : String} {tx : Str} {t : Tok} : ∀ i (h h' : Heap) (o : Obj) (nw : List (Addr × Obj)), h.IsStrIter I T tx t i → h.get? I = some o → h'.get? I = some o → (∀ b o, h₀.get? b = some o → h'.get? b = some o) → News h₀ L h' nw → True → h'.IsStrIter I T tx t i :=
  fun i h h' o nw st e e' _ _ _ => by
    obtain ⟨o', q, r⟩ := st
    rw [e] at q
    cases q
    exact ⟨o, e', r⟩
/-- the source of a comprehension that is a text -/
def SrcStr (prog : Program) (w : World) (A : Around) (h₀ : Heap) (L : Addr) (m : Str → Option Value) (env : PySem.Env) (elt : PySem.Expr) (x : Str) (scope : Scope) (cl : List (Str × Addr)) (Fin : Shared → List Value → List (Addr × Obj) → Prop) (xv : Value) (s₁ : Shared) : Prop :=
  ∃ tx t news, xv = .str tx t ∧ tx.cps.all (· < 128) = true ∧ A.handled = none ∧ Fr h₀ L s₁.heap m ∧ News h₀ L s₁.heap news ∧ tx.cps.size ≤ sizeLine ∧
    ∀ g : Heap, LCg.CompRest prog w A h₀ L m env elt x scope cl { s₁ with heap := g } (fun _ => True) (SignAt tx) (Fin { s₁ with heap := g }) tx.cps.size 0 [] news
theorem ListComp_str {elt iter : PySem.Expr} {x : Str} {px : Pos} {scope : Scope} {cl : List (Str × Addr)} {pos : Pos} {Q : Value → Shared → Prop} (F₀ : Fr h₀ L s.heap m)
    (hclos : closureFor scope env = pure cl) (hcell : ∀ y ∈ scope.names, y.2 ≠ .cell) (hkind : scope.kind = .function)
    (hnames : ∀ y ∈ scope.names, y.2 = .local → scope.names.lookup y.1 = some .local) (hx : scope.names.lookup x = some .local)
    (h : wpAny (model prog w) A (eval iter env) (SrcStr prog w A h₀ L m env elt x scope cl (fun s₂ => LCg.FinE h₀ L m s₂ Q)) E s)
    (hs : ∀ x, foldedSetIterable iter env x = pure x := by intro _; rfl) :
    wpAny (model prog w) A (eval (.ListComp elt [⟨.Name x px, iter, [], 0⟩] scope pos) env) Q E s := by
  rw [eval_ListComp]
  refine wpAny_comprehension_free (use := none) rfl hs hclos hkind hnames (wpAny_mono h (fun xv s₁ h₁ => ?_) fun _ _ e => e)
  obtain ⟨tx, t, news, rfl, ha, hh, F, N, hsz, R⟩ := h₁
  refine wpAny_pyIter_ascii ha ?_
  have up : ∀ o b o', s₁.heap.get? b = some o' → (s₁.heap.push o).get? b = some o' := fun _ b o' e => Heap.get?_push_of_some _ e
  refine LCg.block_U (Walks.strAscii hh s₁.heap.objs.size tx t) hsz (fun i h st => by obtain ⟨o, e, _⟩ := st; exact ⟨o, e⟩) str_st hcell hkind hx ⟨_, Heap.get?_push_size _ rfl, rfl, rfl⟩ (fun b hb => ?_)
    (F.keeps (up _)) (N.grown (up _)) (Nat.ne_of_lt F.ns.lt) (next_is_new F) (fun p hp => Nat.ne_of_lt (Heap.lt_size (N p hp).1)) trivial (R _) ?_
  · rw [List.mem_singleton.mp hb]
    show s₁.heap.objs.size < (s₁.heap.push _).objs.size
    rw [Heap.size_push]; exact Nat.lt_succ_self _
  · intro D C h tk m' ys news' F' N' o1 hn hC₀ hD₀ hCL hDL hCD offC fin
    refine ⟨m', hn, fun h'' hs'' => fin D h'' tk (F'.change hs'' hCL hC₀) (fun p hp => ?_) o1⟩
    refine ⟨hs''.extBut _ _ ?_ (N' p hp).1, (N' p hp).2⟩
    rcases List.mem_cons.mp hp with rfl | hp
    · exact Ne.symm hCD
    · exact offC p hp
end
noncomputable def foldC (c : Nat) : Nat := if 65 ≤ c ∧ c ≤ 90 then c + 32 else c
noncomputable def foldT (x : Str) : Str := ⟨x.cps.map foldC⟩
def FoldEnd (r : Str) (news : List (Addr × Obj)) (y : Value) (news' : List (Addr × Obj)) : Prop := news' = news ∧ ∃ t : Tok, y = .str r t
section
open PyProof.Rows PySem.Calls
variable {prog : Program} {w : World} {A : Around} {h₀ : Heap} {L : Addr} {m : Str → Option Value} {env : PySem.Env} {elt : PySem.Expr} {x : Str} {scope : Scope} {cl : List (Str × Addr)} {s : Shared} {S : List (Addr × Obj) → Prop} {Fin : List Value → List (Addr × Obj) → Prop} {news : List (Addr × Obj)}
theorem comp_signs {tx : Str} (g : Nat → Str) (ha : tx.cps.all (· < 128) = true)
    (turn : ∀ c u I oI C oC D m₂ ys h tk (E' : Value → Shared → Prop), c < 128 → LCg.NsObj oC m₂ → m₂ x = some (.str ⟨#[c]⟩ u) → Fr h₀ L h m → News h₀ L h ((I, oI) :: (C, oC) :: (D, LCg.lst ys) :: news) → LCg.Off3 I C D news → ((@Ne Nat I C) ∧ (@Ne Nat I D) ∧ (@Ne Nat C D)) →
      wpAny (model prog w) A (eval elt (compEnvC scope cl C env)) (LCg.CompEnd h₀ L m { s with heap := h, toks := tk } I oI C oC D (LCg.lst ys) S (fun y news' => FoldEnd (g c) news y news')) E' { s with heap := h, toks := tk })
    (fin : ∀ ys, CarriedAll ys (tx.cps.toList.map fun c => PyData.str (g c)) → Fin ys news) : LCg.CompRest prog w A h₀ L m env elt x scope cl s S (SignAt tx) Fin tx.cps.size 0 [] news := by
  have key : ∀ (j i : Nat) (ys : List Value), i + j = tx.cps.size → StrsAre ys ((tx.cps.toList.take i).map g) → LCg.CompRest prog w A h₀ L m env elt x scope cl s S (SignAt tx) Fin j i ys news := by
    intro j
    induction j with
    | zero =>
      intro i ys hi hy
      have e : i = tx.cps.toList.length := by rw [Array.length_toList]; omega
      subst e
      rw [List.take_length] at hy
      have hc := hy.carried
      rw [List.map_map] at hc
      exact LCg.CompRest.zero (fin ys hc)
    | succ j ih =>
      intro i ys hi hy
      refine LCg.CompRest.succ ?_
      intro v I oI C oC D m₂ h tk E' hv hC hx F N off ne
      obtain ⟨c, u, hc, rfl⟩ := hv
      have hlt : c < 128 := by
        have := Array.all_eq_true.mp ha i (by omega)
        rw [Array.getElem?_eq_getElem (by omega)] at hc
        rw [Option.some.inj hc] at this
        simpa using this
      refine wpAny_mono (turn c u I oI C oC D m₂ ys h tk E' hlt hC hx F N off ne) (fun y s₂ hq => ?_) fun _ _ e => e
      obtain ⟨h', tk', nw, e, F', N', off', hS, rfl, t', rfl⟩ := hq
      refine ⟨h', tk', _, e, F', N', off', hS, ?_⟩
      refine ih (i + 1) _ (by omega) ?_
      rw [List.take_add_one, Array.getElem?_toList, hc]
      simpa using kct_snoc hy
  exact key tx.cps.size 0 [] (by omega) (by simp only [List.take_zero, List.map_nil]; exact .nil)
end
theorem fold_join (tx : Str) : Txt.join (Str.ofString "") (tx.cps.toList.map fun c => (⟨#[foldC c]⟩ : Str)) = foldT tx := by
  show Builtin.Str.glued (Str.ofString "") _ = _
  rw [StrLaws.glued_eq_join, show Str.ofString "" = ⟨#[]⟩ from rfl]
  have := join_ones (tx.cps.toList.map foldC)
  rw [List.map_map] at this
  refine Eq.trans this ?_
  unfold foldT
  exact congrArg Str.mk (by rw [← Array.toList_map])
theorem join_fold {prog : Program} {w : World} {A : Around} {E : Value → Shared → Prop} {s : Shared} {t : Tok} {D : Addr} {ys : List Value} {tx : Str} {Q : Value → Shared → Prop} (hl : s.heap.IsList D ys.toArray) (hc : CarriedAll ys (tx.cps.toList.map fun c => PyData.str (⟨#[foldC c]⟩ : Str))) (hn : tx.cps.size ≤ 100)
    (h : ∀ t' k, Q (.str (foldT tx) t') { s with toks := k }) : wpAny (model prog w) A (call (.builtin "str.join") [.str (Str.ofString "") t, .ref D]) Q E s :=
  KT.join_1 (l := tx.cps.toList) (g := fun c => (⟨#[foldC c]⟩ : Str)) hl hc (fun _ _ => rfl) (by rw [Array.length_toList]; omega) fun t' k _ => by rw [fold_join]; exact h t' k
theorem lt_A {c : Nat} : (⟨#[c]⟩ : Str).cps.toList < (Str.ofString "A").cps.toList ↔ c < 65 := by
  rw [show Str.ofString "A" = ⟨#[65]⟩ from by decide +kernel]
  simp [List.cons_lt_cons_iff]
theorem Z_lt {c : Nat} : (Str.ofString "Z").cps.toList < (⟨#[c]⟩ : Str).cps.toList ↔ 90 < c := by
  rw [show Str.ofString "Z" = ⟨#[90]⟩ from by decide +kernel]
  simp [List.cons_lt_cons_iff]
theorem fold_low {c : Nat} {u : Tok} {news : List (Addr × Obj)} (h : (⟨#[c]⟩ : Str).cps.toList < (Str.ofString "A").cps.toList) : FoldEnd ⟨#[foldC c]⟩ news (.str ⟨#[c]⟩ u) news := by
  have := lt_A.mp h
  exact ⟨rfl, u, by unfold foldC; rw [if_neg (by omega)]⟩
theorem fold_high {c : Nat} {u : Tok} {news : List (Addr × Obj)} (h : (Str.ofString "Z").cps.toList < (⟨#[c]⟩ : Str).cps.toList) : FoldEnd ⟨#[foldC c]⟩ news (.str ⟨#[c]⟩ u) news := by
  have := Z_lt.mp h
  exact ⟨rfl, u, by unfold foldC; rw [if_neg (by omega)]⟩
theorem fold_mid {c : Nat} {u : Tok} {news : List (Addr × Obj)} (h1 : ¬ (⟨#[c]⟩ : Str).cps.toList < (Str.ofString "A").cps.toList) (h2 : ¬ (Str.ofString "Z").cps.toList < (⟨#[c]⟩ : Str).cps.toList) : FoldEnd ⟨#[foldC c]⟩ news (.str ⟨#[((c : Int) + 32).toNat]⟩ u) news := by
  have := mt lt_A.mpr h1
  have := mt Z_lt.mpr h2
  exact ⟨rfl, u, by unfold foldC; rw [if_pos (by omega)]; congr 3⟩
section
local macro_rules | `(tactic| walk_at "eval ListComp") => `(tactic| k_extra "P70 eval ListComp")
local macro_rules | `(tactic| walk_at "SrcStr") => `(tactic| ((refine ⟨_, _, _, rfl, by assumption, rfl, by k_asm, by k_asm, by rw [PySem.sizeLine_eq]; omega, ?_⟩); (intro g₂); (refine' comp_signs (fun c => ⟨#[foldC c]⟩) (by assumption) ?cturn ?cfin); (case' cturn => (intro c u I oI C oC D m₂ ys h tk E' hc hC hx F' N' off' ne'; (simp only [LCg.Off3] at off'))); (case' cfin => intro ys hcar)))
local macro_rules | `(tactic| walk_at "call builtin:str.join") => `(tactic| k_extra "P70 call builtin:str.join")
theorem words32 : True := by
  k_with "P70 eval ListComp" => (first | ((k_here; k_dflt (refine ListComp_str (F₀ := by k_asm) (by with_unfolding_all rfl) (by decide) (by rfl) (by decide) (by rfl) ?_))) | fail "no")
  k_with "P70 call builtin:str.join" => (first | ((k_here; k_dflt (refine join_fold (by is_list) (by assumption) (by assumption) ?_; k_whole); intro wtzw wkzw)) | fail "no")
  trivial
set_option maxHeartbeats 4000000 in
theorem fold_con (w : World) (nm : Str) (t : Tok) :
    Con w 368 1 8 [.str nm t] [] (fun _ => nm.cps.all (· < 128) = true ∧ nm.cps.size ≤ 100) (PNew [] (fun v new => new = [] ∧ ∃ t, v = .str (foldT nm) t)) := by
  intro loose mean mg mb dp un gd cn cs aa ccd cl outer A₀ base h₀ L m s Q E ⟨B, F, X, N, T, k, hd, hu⟩ ⟨ha, hsz⟩ hret
  refine wpAny_call ?_
  k_dflt (walk_at "my enter")
  k_steps
  · exact hret _ _ _ _ (by assumption) (by assumption) (Kept.trans (by assumption) (Fr.keep (by assumption))) (fresh_of (by assumption) (by assumption)) ⟨[], ⟨rfl, _, rfl⟩, (fun _ h => nomatch h), (fun _ h => nomatch h), (fun _ h => nomatch h)⟩
  · exact fold_low (by assumption)
  · exact fold_high (by assumption)
  · exact fold_mid (by assumption) (by assumption)
end
theorem words33 : True := by
  k_with "my call ref" => (first | ((k_here; (with_reducible show wpAny _ _ (call (Value.ref 368) _) _ _ _); k_dflt (refine use_new (fold_con _ _ _) ⟨(by k_asm), (by k_asm), (by k_asm), (by k_asm), (by k_asm), (by first | exact rfl | assumption), (by ktr_room), (by ktr_units)⟩ (by walk_at "my sub") ⟨(by assumption), (by assumption)⟩ ?_; k_whole); (rintro wvzw wnewzw whzw wtkzw wFzw wNzw - - ⟨we1w, wtzw, we2w⟩); subst we1w; subst we2w; (try simp only [List.nil_append] at wNzw); (try k_sweep))) | fail "no")
  trivial
theorem lower_fold {nm : Str} (h : nm = Str.ofString "Ab" ∨ nm = Str.ofString "other") : foldT nm = Txt.lower nm := by rcases h with rfl | rfl <;> decide +kernel
theorem path_ascii {nm : Str} (h : nm = Str.ofString "Ab" ∨ nm = Str.ofString "other") : nm.cps.all (· < 128) = true ∧ nm.cps.size ≤ 100 := by rcases h with rfl | rfl <;> decide +kernel
theorem PathAt.reads {P : Params} {pa : Addr} {wd : Str} {ix led cov : Bool} {sub : List (Addr × Obj)} (h : PathAt P pa wd ix led cov sub) :
    ∃ dx t0 t1 t2 t3 t4 t5 t6 t7 t8 t9 t10 t11 t12 t13 t14 kd tk ixv E1 E2 rw co es n1 rest, sub = (pa, instObj 407 dx) :: (dx, pathDict P t0 t1 t2 t3 t4 t5 t6 t7 t8 t9 t10 t11 t12 t13 t14 kd tk ixv E1 E2 cov rw co) :: (E1, listOf es n1) :: rest ∧
      (led = false ∧ es = #[] ∨ led = true ∧ ∃ x, es = #[.ref x]) ∧ (kd != Str.ofString "index") = !ix := by
  cases h with
  | plain dx t0 t1 t2 t3 t4 t5 t6 t7 t8 t9 t10 t11 t12 t13 t14 kd wd tk E1 E2 rw co n1 hk =>
    exact ⟨_, _, _, _, _, _, _, _, _, _, _, _, _, _, _, _, _, _, _, _, _, _, _, _, _, _, rfl, .inl ⟨rfl, rfl⟩, by rcases hk with ⟨rfl, _⟩ | ⟨rfl | rfl, _⟩ <;> decide +kernel⟩
  | index dx t0 t1 t2 t3 t4 t5 t6 t7 t8 t9 t10 t11 t12 t13 t14 nm tk ix E1 E2 led cov rw co es n1 di u0 u1 u2 u3 u4 u5 u6 tn v1 v2 v3 v4 v5 v6 hn he =>
    exact ⟨_, _, _, _, _, _, _, _, _, _, _, _, _, _, _, _, _, _, _, _, _, _, _, _, _, _, rfl, he, by decide +kernel⟩
theorem ne_nil {prog : Program} {w : World} {A : Around} {E : Value → Shared → Prop} {s : Shared} {a b : Addr} {es : Array Value} {led : Bool} {Q : Value → Shared → Prop} (ha : s.heap.IsList a es) (hb : s.heap.IsList b #[]) (he : led = false ∧ es = #[] ∨ led = true ∧ ∃ x, es = #[.ref x]) (hu : A.units < cLine)
    (h : Q (.bool led) s) : wpAny (model prog w) A (compareOp .NotEq (.ref a) (.ref b)) Q E s := by
  rcases he with ⟨rfl, rfl⟩ | ⟨rfl, x, rfl⟩
  · exact SeqAt.RcNeAt.lists (e := fun _ => true) ha hb rfl hu (fun j h1 _ => absurd h1 (Nat.not_lt_zero _)) prog w E Q h
  · exact SeqAt.RcNeAt.lists_lengths ha hb rfl hu prog w E Q h
section
local macro_rules | `(tactic| walk_at "compareOp NotEq ref ref") => `(tactic| k_extra "P72 compareOp NotEq ref ref")
theorem words34 : True := by
  k_with "P72 compareOp NotEq ref ref" => (first | ((k_here; k_dflt (refine ne_nil (by exact News.isList (by k_asm) (by k_mem)) (by exact News.isList (by k_asm) (by k_mem)) (by assumption) (by ke_room) ?_; k_whole))) | fail "no")
  trivial
set_option maxHeartbeats 4000000 in
theorem is_led_con (w : World) (pa : Addr) (wd : Str) (ix led cov : Bool) (sub : List (Addr × Obj)) :
    Con w 390 2 96 [.ref pa] sub (fun _ => PathAt w.params pa wd ix led cov sub) (PNew sub (fun v new => new = [] ∧ v = .bool led)) := by
  intro loose mean mg mb dp un gd cn cs aa ccd cl outer A₀ base h₀ L m s Q E ⟨B, F, X, N, T, k, hd, hu⟩ hP hret
  refine wpAny_call ?_
  obtain ⟨dx, t0, t1, t2, t3, t4, t5, t6, t7, t8, t9, t10, t11, t12, t13, t14, kd, tk, ixv, E1, E2, rw, co, es, n1, rest, rfl, he, -⟩ := hP.reads
  clear hP
  k_dflt (walk_at "my enter")
  k_steps
  all_goals (refine bool_ret (b := led) ?_ (hret _ _ _ _ (by assumption) (by assumption) (Kept.trans (by assumption) (Fr.keep (by assumption))) (fresh_of (by assumption) (by assumption)) ⟨[], ⟨rfl, rfl⟩, ?_, (fun _ h => nomatch h), (fun _ h => nomatch h)⟩))
  · rfl
  · walk_at "my tail"
  · exact Eq.symm (by assumption)
  · walk_at "my tail"
end
theorem words35 : True := by
  k_with "my all" => (first | ((intro wpw whpw; repeat (first | exact whpw | exact List.mem_append_left _ whpw | refine List.mem_cons_of_mem _ ?_))) | fail "no")
  k_with "my call ref" => (first | ((k_here; (with_reducible show wpAny _ _ (call (Value.ref 390) _) _ _ _); k_dflt (refine use_newP (is_led_con _ _ _ _ _ _ _) ⟨(by k_asm), (by k_asm), (by k_asm), (by k_asm), (by k_asm), (by first | exact rfl | assumption), (by ktr_room), (by ktr_units)⟩ (by assumption) (by walk_at "my all") ?_; k_whole); (rintro wvzw wnewzw whzw wtkzw wFzw wNzw - - ⟨we1w, we2w⟩); subst we1w; subst we2w; (try simp only [List.nil_append] at wNzw); (try k_sweep))) | fail "no")
  trivial
section
variable {kd wd wt nm : Str}
theorem want_index (hk : kd = Str.ofString "scan" ∧ wd = Str.ofString "scan" ∨ (kd = Str.ofString "rowid" ∨ kd = Str.ofString "rowid_range") ∧ wd = Str.ofString "rowid") : (kd == Str.ofString "index") = false := by
  rcases hk with ⟨rfl, _⟩ | ⟨rfl | rfl, _⟩ <;> decide +kernel
theorem want_scan (hk : kd = Str.ofString "scan" ∧ wd = Str.ofString "scan" ∨ (kd = Str.ofString "rowid" ∨ kd = Str.ofString "rowid_range") ∧ wd = Str.ofString "rowid") (h : (wt == Str.ofString "scan") = true) : (kd == Str.ofString "scan") = (wt == wd) := by
  rw [eq_of_beq h]
  rcases hk with ⟨rfl, rfl⟩ | ⟨rfl | rfl, rfl⟩ <;> decide +kernel
theorem want_rowid (hk : kd = Str.ofString "scan" ∧ wd = Str.ofString "scan" ∨ (kd = Str.ofString "rowid" ∨ kd = Str.ofString "rowid_range") ∧ wd = Str.ofString "rowid") (h : (wt == Str.ofString "rowid") = true) : ([Str.ofString "rowid", Str.ofString "rowid_range"].any fun x => x == kd) = (wt == wd) := by
  rw [eq_of_beq h]
  rcases hk with ⟨rfl, rfl⟩ | ⟨rfl | rfl, rfl⟩ <;> decide +kernel
theorem want_none (hk : kd = Str.ofString "scan" ∧ wd = Str.ofString "scan" ∨ (kd = Str.ofString "rowid" ∨ kd = Str.ofString "rowid_range") ∧ wd = Str.ofString "rowid") (h1 : (wt == Str.ofString "scan") = false) (h2 : (wt == Str.ofString "rowid") = false) : (kd == Str.ofString "index") = (wt == wd) := by
  rw [want_index hk]
  rcases hk with ⟨rfl, rfl⟩ | ⟨rfl | rfl, rfl⟩ <;> simp_all
theorem wantx_scan (hn : nm = Str.ofString "Ab" ∨ nm = Str.ofString "other") (h : (wt == Str.ofString "scan") = true) : (Str.ofString "index" == Str.ofString "scan") = (wt == Txt.lower nm) := by
  rw [eq_of_beq h]
  rcases hn with rfl | rfl <;> decide +kernel
theorem wantx_rowid (hn : nm = Str.ofString "Ab" ∨ nm = Str.ofString "other") (h : (wt == Str.ofString "rowid") = true) : ([Str.ofString "rowid", Str.ofString "rowid_range"].any fun x => x == Str.ofString "index") = (wt == Txt.lower nm) := by
  rw [eq_of_beq h]
  rcases hn with rfl | rfl <;> decide +kernel
theorem wantx_index (hn : nm = Str.ofString "Ab" ∨ nm = Str.ofString "other") : (foldT nm == wt) = (wt == Txt.lower nm) := by
  rw [lower_fold hn]
  exact Bool.eq_iff_iff.mpr (by rw [beq_iff_eq, beq_iff_eq]; exact eq_comm)
end
set_option maxHeartbeats 4000000 in
theorem is_wanted_con (w : World) (pa : Addr) (wd wt : Str) (ix led cov : Bool) (tw : Tok) (sub : List (Addr × Obj)) :
    Con w 432 2 16 [.ref pa, .str wt tw] sub (fun _ => PathAt w.params pa wd ix led cov sub) (PNew sub (fun v new => new = [] ∧ v = .bool (wt == wd))) := by
  intro loose mean mg mb dp un gd cn cs aa ccd cl outer A₀ base h₀ L m s Q E ⟨B, F, X, N, T, k, hd, hu⟩ hP hret
  refine wpAny_call ?_
  cases hP with
  | plain dx t0 t1 t2 t3 t4 t5 t6 t7 t8 t9 t10 t11 t12 t13 t14 kd wd tk E1 E2 rw co n1 hk =>
    have hki := want_index hk
    k_dflt (walk_at "my enter")
    k_steps
    all_goals (refine bool_ret ?_ (hret _ _ _ _ (by assumption) (by assumption) (Kept.trans (by assumption) (Fr.keep (by assumption))) (fresh_of (by assumption) (by assumption)) ⟨[], ⟨rfl, rfl⟩, (by walk_at "my all"), (fun _ h => nomatch h), (fun _ h => nomatch h)⟩))
    · exact want_scan hk (by assumption)
    · exact want_rowid hk (by assumption)
    · exact want_none hk (by assumption) (by assumption)
  | index dx t0 t1 t2 t3 t4 t5 t6 t7 t8 t9 t10 t11 t12 t13 t14 nm tk ix E1 E2 led cov rw co es n1 di u0 u1 u2 u3 u4 u5 u6 tn v1 v2 v3 v4 v5 v6 hn he =>
    have ha := (path_ascii hn).1
    have hz := (path_ascii hn).2
    k_dflt (walk_at "my enter")
    k_steps
    all_goals (refine bool_ret ?_ (hret _ _ _ _ (by assumption) (by assumption) (Kept.trans (by assumption) (Fr.keep (by assumption))) (fresh_of (by assumption) (by assumption)) ⟨[], ⟨rfl, rfl⟩, (by walk_at "my all"), (fun _ h => nomatch h), (fun _ h => nomatch h)⟩))
    · exact wantx_scan hn (by assumption)
    · exact wantx_rowid hn (by assumption)
    · exact wantx_index hn
theorem words36 : True := by
  k_with "my call ref" => (first | ((k_here; (with_reducible show wpAny _ _ (call (Value.ref 432) _) _ _ _); k_dflt (refine use_newP (is_wanted_con _ _ _ _ _ _ _ _ _) ⟨(by k_asm), (by k_asm), (by k_asm), (by k_asm), (by k_asm), (by first | exact rfl | assumption), (by ktr_room), (by ktr_units)⟩ (by assumption) (by walk_at "my all") ?_; k_whole); (rintro wvzw wnewzw whzw wtkzw wFzw wNzw - - ⟨we1w, we2w⟩); subst we1w; subst we2w; (try simp only [List.nil_append] at wNzw); (try k_sweep))) | fail "no")
  trivial
noncomputable abbrev hint1 (t : Tok) (n : Nat) : Obj := { cls := .type "tuple", data := .seq #[.str (Str.ofString "scan") t] n }
noncomputable abbrev hint2 (t : Tok) (nm : Str) (tn : Tok) (n : Nat) : Obj := { cls := .type "tuple", data := .seq #[.str (Str.ofString "index") t, .str nm tn] n }
section
variable {x led cov : Bool}
theorem let_end1 (a : x = true) (b : led = true) : led = (x && (led || cov)) := by subst a; subst b; rfl
theorem let_end2 (a : x = true) (b : led = false) : cov = (x && (led || cov)) := by subst a; subst b; rfl
theorem let_end3 (a : x = false) : x = (x && (led || cov)) := by subst a; rfl
end
set_option maxHeartbeats 4000000 in
theorem let_none_con (w : World) (pa : Addr) :
    Con w 439 1 16 [.ref pa, .none] [] (fun _ => True) (PNew [] (fun v new => new = [] ∧ v = .bool true)) := by
  intro loose mean mg mb dp un gd cn cs aa ccd cl outer A₀ base h₀ L m s Q E ⟨B, F, X, N, T, k, hd, hu⟩ _ hret
  refine wpAny_call ?_
  k_dflt (walk_at "my enter")
  k_steps
  exact hret _ _ _ _ (by assumption) (by assumption) (Kept.trans (by assumption) (Fr.keep (by assumption))) (fresh_of (by assumption) (by assumption)) ⟨[], ⟨rfl, rfl⟩, (fun _ h => h), (fun _ h => nomatch h), (fun _ h => nomatch h)⟩
set_option maxHeartbeats 4000000 in
theorem let_scan_con (w : World) (pa ht : Addr) (th : Tok) (n : Nat) (wd : Str) (ix led cov : Bool) (sub : List (Addr × Obj)) :
    Con w 439 1 16 [.ref pa, .ref ht] ((ht, hint1 th n) :: sub) (fun _ => PathAt w.params pa wd ix led cov sub) (PNew ((ht, hint1 th n) :: sub) (fun v new => new = [] ∧ v = .bool (!ix))) := by
  intro loose mean mg mb dp un gd cn cs aa ccd cl outer A₀ base h₀ L m s Q E ⟨B, F, X, N, T, k, hd, hu⟩ hP hret
  refine wpAny_call ?_
  obtain ⟨dx, t0, t1, t2, t3, t4, t5, t6, t7, t8, t9, t10, t11, t12, t13, t14, kd, tk, ixv, E1, E2, rw, co, es, n1, rest, rfl, -, hkd⟩ := hP.reads
  clear hP
  k_dflt (walk_at "my enter")
  k_steps
  exact (bool_ret hkd (hret _ _ _ _ (by assumption) (by assumption) (Kept.trans (by assumption) (Fr.keep (by assumption))) (fresh_of (by assumption) (by assumption)) ⟨[], ⟨rfl, rfl⟩, (by walk_at "my all"), (fun _ h => nomatch h), (fun _ h => nomatch h)⟩))
set_option maxHeartbeats 4000000 in
theorem let_index_con (w : World) (pa ht : Addr) (th tn : Tok) (nm : Str) (n : Nat) (wd : Str) (ix led cov : Bool) (sub : List (Addr × Obj)) :
    Con w 439 4 128 [.ref pa, .ref ht] ((ht, hint2 th nm tn n) :: sub) (fun _ => PathAt w.params pa wd ix led cov sub ∧ nm.cps.all (· < 128) = true ∧ nm.cps.size ≤ 100) (PNew ((ht, hint2 th nm tn n) :: sub) (fun v new => new = [] ∧ v = .bool ((foldT nm == wd) && (led || cov)))) := by
  intro loose mean mg mb dp un gd cn cs aa ccd cl outer A₀ base h₀ L m s Q E ⟨B, F, X, N, T, k, hd, hu⟩ ⟨hP, ha, hz⟩ hret
  refine wpAny_call ?_
  obtain ⟨dx, t0, t1, t2, t3, t4, t5, t6, t7, t8, t9, t10, t11, t12, t13, t14, kd, tk, ixv, E1, E2, rw, co, es, n1, rest, rfl, -, -⟩ := hP.reads
  k_dflt (walk_at "my enter")
  k_steps
  all_goals (refine bool_ret ?_ (hret _ _ _ _ (by assumption) (by assumption) (Kept.trans (by assumption) (Fr.keep (by assumption))) (fresh_of (by assumption) (by assumption)) ⟨[], ⟨rfl, rfl⟩, (by walk_at "my all"), (fun _ h => nomatch h), (fun _ h => nomatch h)⟩))
  · exact let_end1 (by assumption) (by assumption)
  · exact let_end2 (by assumption) (by assumption)
  · exact let_end3 (by assumption)
theorem words37 : True := by
  k_with "my let" => (first | (first
  | (refine use_new (let_none_con _ _) ⟨(by k_asm), (by k_asm), (by k_asm), (by k_asm), (by k_asm), (by first | exact rfl | assumption), (by ktr_room), (by ktr_units)⟩ (by walk_at "my sub") trivial ?_; k_whole)
  | (refine use_newP (let_scan_con _ _ _ _ _ _ _ _ _ _) ⟨(by k_asm), (by k_asm), (by k_asm), (by k_asm), (by k_asm), (by first | exact rfl | assumption), (by ktr_room), (by ktr_units)⟩ (by assumption) (by refine List.forall_mem_cons.mpr ⟨(by k_mem), (by walk_at "my all")⟩) ?_; k_whole)
  | (refine use_newP (let_index_con _ _ _ _ _ _ _ _ _ _ _ _) ⟨(by k_asm), (by k_asm), (by k_asm), (by k_asm), (by k_asm), (by first | exact rfl | assumption), (by ktr_room), (by ktr_units)⟩ ⟨(by assumption), (by first | assumption | decide +kernel), (by first | assumption | decide +kernel)⟩ (by refine List.forall_mem_cons.mpr ⟨(by k_mem), (by walk_at "my all")⟩) ?_; k_whole)) | fail "no")
  k_with "my call ref" => (first | ((k_here; (with_reducible show wpAny _ _ (call (Value.ref 439) _) _ _ _); k_dflt (walk_at "my let"); (rintro wvzw wnewzw whzw wtkzw wFzw wNzw - - ⟨we1w, we2w⟩); subst we1w; subst we2w; (try simp only [List.nil_append] at wNzw); (try k_sweep))) | fail "no")
  trivial
theorem PathAt.isIndex {P : Params} {pa : Addr} {wd : Str} {ix led cov : Bool} {sub : List (Addr × Obj)} (h : PathAt P pa wd ix led cov sub) : ix = !([Str.ofString "scan", Str.ofString "rowid"].any fun x => x == wd) := by
  cases h with
  | plain dx t0 t1 t2 t3 t4 t5 t6 t7 t8 t9 t10 t11 t12 t13 t14 kd wd tk E1 E2 rw co n1 hk =>
    rcases hk with ⟨_, rfl⟩ | ⟨_, rfl⟩ <;> decide +kernel
  | index dx t0 t1 t2 t3 t4 t5 t6 t7 t8 t9 t10 t11 t12 t13 t14 nm tk ix E1 E2 led cov rw co es n1 di u0 u1 u2 u3 u4 u5 u6 tn v1 v2 v3 v4 v5 v6 hn he =>
    rcases hn with rfl | rfl <;> decide +kernel
def TxtEnd (h₀ : Heap) (L : Addr) (s : Shared) (x : Str) (m₀ : Str → Option Value) (it : Addr × Obj) (news : List (Addr × Obj)) (f : Flow) (s₂ : Shared) : Prop :=
  f = .next ∧ ∃ h' tk' m', s₂ = { s with heap := h', toks := tk' } ∧ Fr h₀ L h' m' ∧ (∀ z, z ≠ x → m' z = m₀ z) ∧ News h₀ L h' (it :: news)
theorem strs_mem {v : Value} : ∀ {vs : List Value} {ts : List Str}, StrsAre vs ts → v ∈ vs → ∃ a t, v = .str a t ∧ a ∈ ts
  | _, _, .nil, h => nomatch h
  | _, _, .cons a t r, h => by
    rcases List.mem_cons.mp h with rfl | h
    · exact ⟨a, t, rfl, .head _⟩
    · obtain ⟨b, u, e, m⟩ := strs_mem r h
      exact ⟨b, u, e, .tail _ m⟩
section
variable {prog : Program} {w : World} {A : Around} {E : Value → Shared → Prop} {s : Shared} {env : PySem.Env} {h₀ : Heap} {body : List Stmt} {Q : Flow → Shared → Prop}
theorem texts_loop {x : Str} {px : Pos} {ts : List Str} {ax : Addr} {lo : Obj} {vs : List Value} {n : Nat} {m₀ : Str → Option Value} {news : List (Addr × Obj)}
    (hh : A.handled = none) (F : Fr h₀ env.locals s.heap m₀) (N : News h₀ env.locals s.heap news) (hm : (ax, lo) ∈ news) (hc : lo.cls = .type "tuple") (hd : lo.data = .seq vs.toArray n) (hv : StrsAre vs ts)
    (turn : ∀ a t I o (u : Str → Option Value) h tk, a ∈ ts → o.cls = .type "tuple_iterator" → (∀ p ∈ news, p.1 < I) → Fr h₀ env.locals h (fun y => if y = x then u y else m₀ y) → News h₀ env.locals h ((I, o) :: news) →
      wpAny (model prog w) A (assign (.Name x px) env (.str a t)) (fun _ s₂ => wpAny (model prog w) A (execs body env) (TxtEnd h₀ env.locals s x m₀ (I, o) news) E s₂) E { s with heap := h, toks := tk })
    (done : ∀ (u : Str → Option Value) h tk, Fr h₀ env.locals h (fun y => if y = x then u y else m₀ y) → News h₀ env.locals h news → Q .next { s with heap := h, toks := tk }) :
    wpAny (model prog w) A (pyIter (.ref ax)) (fun it s₂ => TurnsAt prog w A h₀ env (.Name x px) body Q E it s₂) E s := by
  refine iter_tupTurns hh F N hm hc hd fun I hI => ?_
  have key : ∀ (xs : List Value) (m : Str → Option Value), (∀ v ∈ xs, v ∈ vs) → (∀ z, z ≠ x → m z = m₀ z) → ItemsRest prog w A E h₀ env (.Name x px) body Q s [(I, "tuple_iterator")] [(ax, lo)] (xs.map .val) m news := by
    intro xs
    induction xs with
    | nil =>
      intro m _ hz
      refine ItemsRest.zero fun h tk F₁ N₁ => done m h tk ?_ N₁
      have em : (fun y => if y = x then m y else m₀ y) = m := by
        funext y
        by_cases hy : y = x
        · simp [hy]
        · simp only [if_neg hy]; exact (hz y hy).symm
      rw [em]; exact F₁
    | cons v r ih =>
      intro m hsub hz
      obtain ⟨a, t, rfl, hP⟩ := strs_mem hv (hsub _ (.head _))
      refine ItemsRest.val fun h tk F₁ => AllObj.cons fun o ho => AllObj.nil fun N₁ => ?_
      have em : m = fun y => if y = x then m y else m₀ y := by
        funext y
        by_cases hy : y = x
        · simp [hy]
        · simp only [if_neg hy]; exact hz y hy
      rw [em] at F₁
      refine wpAny_mono (turn a t I o m h tk hP ho hI F₁ N₁) (fun _ s₂ h₂ => wpAny_mono h₂ (fun f s₃ p => ?_) fun _ _ e => e) fun _ _ e => e
      obtain ⟨rfl, h', tk', m', rfl, F₂, hz₂, N₂⟩ := p
      refine ⟨h', tk', m', news, rfl, F₂, N₂, fun p hp q hq e => ?_, ⟨hm, trivial⟩, ih m' (fun v hv' => hsub v (.tail _ hv')) hz₂⟩
      rw [List.mem_singleton.mp hq] at e
      exact Nat.ne_of_lt (hI p hp) e
  exact key vs m₀ (fun _ h => h) fun _ _ => rfl
theorem join_bool {e : PySem.Expr} {X : Bool} {Q : Value → Shared → Prop} (h : wpAny (model prog w) A (eval e env) (fun v s' => v = .bool X ∧ ∃ tk', s' = { s with toks := tk' }) E s) (k : ∀ tk', Q (.bool X) { s with toks := tk' }) : wpAny (model prog w) A (eval e env) Q E s :=
  wpAny_mono h (fun _ _ ⟨e1, _, e2⟩ => e1 ▸ e2 ▸ k _) fun _ _ x => x
end
theorem four_names {P : Str → Prop} {a : Str} (h : a ∈ [Str.ofString "AB", Str.ofString "ab", Str.ofString "Other", Str.ofString "none"]) (h1 : P (Str.ofString "AB")) (h2 : P (Str.ofString "ab")) (h3 : P (Str.ofString "Other")) (h4 : P (Str.ofString "none")) : P a := by
  simp only [List.mem_cons, List.not_mem_nil, or_false] at h
  rcases h with rfl | rfl | rfl | rfl <;> assumption
theorem name_facts {a : Str} (h : a ∈ [Str.ofString "AB", Str.ofString "ab", Str.ofString "Other", Str.ofString "none"]) :
    a.cps.all (· < 128) = true ∧ a.cps.size ≤ 100 ∧ Builtin.Str.tooLong (Txt.lower a).length = false ∧ foldT a = Txt.lower a ∧ (Txt.lower a == Str.ofString "scan") = false ∧ (Txt.lower a == Str.ofString "rowid") = false :=
  four_names (P := fun a => a.cps.all (· < 128) = true ∧ a.cps.size ≤ 100 ∧ Builtin.Str.tooLong (Txt.lower a).length = false ∧ foldT a = Txt.lower a ∧ (Txt.lower a == Str.ofString "scan") = false ∧ (Txt.lower a == Str.ofString "rowid") = false) h (by decide +kernel) (by decide +kernel) (by decide +kernel) (by decide +kernel)
theorem and_end1 {wd l : Str} {y : Bool} (h1 : (l == Str.ofString "scan") = false) (h2 : (l == Str.ofString "rowid") = false) (h : ([Str.ofString "scan", Str.ofString "rowid"].any fun x => x == wd) = true) : (!([Str.ofString "scan", Str.ofString "rowid"].any fun x => x == wd)) = ((l == wd) && y) := by
  rw [h]
  simp only [List.any_cons, List.any_nil, Bool.or_false, Bool.or_eq_true, beq_iff_eq] at h
  rcases h with rfl | rfl
  · rw [h1]; rfl
  · rw [h2]; rfl
theorem and_end2 {wd l : Str} {y : Bool} (h : (wd == l) = false) : (wd == l) = ((l == wd) && y) := by
  have e : (l == wd) = (wd == l) := Bool.eq_iff_iff.mpr (by rw [beq_iff_eq, beq_iff_eq]; exact eq_comm)
  rw [e, h]; rfl
theorem and_end3 {wd l : Str} {led cov : Bool} (h : (wd == l) = true) (hl : led = true) : led = ((l == wd) && (led || cov)) := by
  rw [eq_of_beq h, hl]; simp
theorem and_end4 {wd l : Str} {led cov : Bool} (h : (wd == l) = true) (hl : led = false) : cov = ((l == wd) && (led || cov)) := by
  rw [eq_of_beq h, hl]; simp
theorem ne_self_bool {prog : Program} {w : World} {A : Around} {E : Value → Shared → Prop} {s : Shared} {b : Bool} {Q : Value → Shared → Prop} (h : Q (.bool false) s) : wpAny (model prog w) A (compareOp .NotEq (.bool b) (.bool b)) Q E s :=
  ne_bool (by rw [bne_self_eq_false]; exact h)
section
local macro_rules | `(tactic| walk_at "compareOp NotEq bool bool") => `(tactic| (k_here; (with_reducible refine ne_self_bool ?_)))
theorem txt_end {h₀ : Heap} {L : Addr} {s : Shared} {x : Str} {m₀ m' : Str → Option Value} {it : Addr × Obj} {news : List (Addr × Obj)} {h' : Heap} {tk' : Nat} (F : Fr h₀ L h' m') (hz : ∀ z, z ≠ x → m' z = m₀ z) (N : News h₀ L h' (it :: news)) : TxtEnd h₀ L s x m₀ it news .next { s with heap := h', toks := tk' } := ⟨rfl, h', tk', m', rfl, F, hz, N⟩
def InAnd : Prop := True
def IsB (X : Bool) (s : Shared) (v : Value) (s' : Shared) : Prop := v = .bool X ∧ ∃ tk', s' = { s with toks := tk' }
theorem IsB.of {X b : Bool} {s : Shared} {tk' : Nat} (h : b = X) : IsB X s (.bool b) { s with toks := tk' } := ⟨congrArg Value.bool h, tk', rfl⟩
theorem join_let {prog : Program} {w : World} {A : Around} {E : Value → Shared → Prop} {s : Shared} {env : PySem.Env} {e : PySem.Expr} {Q : Value → Shared → Prop} {P : Params} {pa : Addr} {wd a : Str} {ix led cov : Bool} {sub : List (Addr × Obj)} (_ : PathAt P pa wd ix led cov sub) (_ : foldT a = Txt.lower a)
    (h : InAnd → wpAny (model prog w) A (eval e env) (IsB ((foldT a == wd) && (led || cov)) s) E s) (k : ∀ tk', Q (.bool ((foldT a == wd) && (led || cov))) { s with toks := tk' }) : wpAny (model prog w) A (eval e env) Q E s :=
  join_bool (h trivial) k
local macro_rules | `(tactic| walk_at "eval BoolOp") => `(tactic| (k_here; (with_reducible show wpAny _ _ (eval (PySem.Expr.BoolOp PySem.BoolOp.And _ _) _) _ _ _); (fail_if_success (have : InAnd := by assumption)); k_dflt (refine' join_let ?p ?q ?h ?k; (case p => assumption); (case q => assumption)); (case' h => intro hMark); (case' k => intro tk')))
theorem txt_end2 {h₀ : Heap} {L : Addr} {s : Shared} {x : Str} {m₀ m' : Str → Option Value} {it q : Addr × Obj} {news : List (Addr × Obj)} {h' : Heap} {tk' : Nat} (F : Fr h₀ L h' m') (hz : ∀ z, z ≠ x → m' z = m₀ z) (N : News h₀ L h' (q :: it :: news)) : TxtEnd h₀ L s x m₀ it news .next { s with heap := h', toks := tk' } := txt_end F hz fun p hp => N p (List.mem_cons_of_mem _ hp)
local macro_rules | `(tactic| walk_at "my texts") => `(tactic| ((rename Fr _ _ _ _ => lF'); (rename News _ _ _ _ => lN'); (with_unfolding_all refine' texts_loop ?hh lF' lN' ?hm ?hc ?hd ?hv ?turn ?done); (case hh => rfl); (case hm => k_mem); (case hc => rfl); (case hd => rfl); (case hv => repeat constructor); (clear lF' lN'); (case' turn => (intro a t I o u h tk ha ho l1 F' N'; (try k_lt l1); (try obtain ⟨q1, q2, q3, q4, q5, q6⟩ := name_facts ha))); (case' done => intro u h tk F' N'); (all_goals (try k_fold))))
local macro_rules | `(tactic| walk_at "call builtin:str.lower") => `(tactic| k_extra "P74 call builtin:str.lower")
theorem words38 : True := by
  k_with "P74 call builtin:str.lower" => (first | ((k_here; (with_reducible show wpAny _ _ (call (Value.builtin "str.lower") [Value.str _ _]) _ _ _); k_dflt (refine PySem.W.KXw.lower (Eq.refl _) (by assumption) ?_; k_whole); intro wtzw wtkzw)) | fail "no")
  trivial
set_option maxHeartbeats 8000000 in
theorem hints_con (w : World) (pa : Addr) (wd : Str) (tw : Tok) (ix led cov : Bool) (sub : List (Addr × Obj)) :
    Con w 556 5 160 [.ref pa, .str wd tw, .bool led, .bool cov] sub (fun _ => PathAt w.params pa wd ix led cov sub) (PNew sub (fun v new => new = [] ∧ v = .bool true)) := by
  intro loose mean mg mb dp un gd cn cs aa ccd cl outer A₀ base h₀ L m s Q E ⟨B, F, X, N, T, k, hd, hu⟩ hP hret
  refine wpAny_call ?_
  have hix := hP.isIndex
  subst hix
  k_with "my loop" => walk_at "my texts"
  k_dflt (walk_at "my enter")
  k_steps
  all_goals first
    | exact hret _ _ _ _ (by assumption) (by assumption) (Kept.trans (by assumption) (Fr.keep (by assumption))) (fresh_of (by assumption) (by assumption)) ⟨[], ⟨rfl, rfl⟩, (by walk_at "my all"), (fun _ h => nomatch h), (fun _ h => nomatch h)⟩
    | exact txt_end (by assumption) (fun z hz => by simp only [if_neg hz]) (by assumption)
    | exact txt_end2 (by assumption) (fun z hz => by simp only [if_neg hz]) (by assumption)
    | (rename foldT _ = Txt.lower _ => q4; (refine IsB.of ?_); rw [q4]; first
      | exact and_end1 (by assumption) (by assumption) (by assumption)
      | exact and_end2 (by assumption)
      | exact and_end3 (by assumption) (by assumption)
      | exact and_end4 (by assumption) (by assumption))
  k_with_none
theorem words40 : True := by
  k_with "my lt" => (first | (with_reducible first | exact And.left (by assumption) | exact (by assumption) | exact And.left (And.right (by assumption)) | exact (And.right (by assumption)) | exact And.left (And.right (And.right (by assumption))) | exact (And.right (And.right (by assumption))) | exact And.left (And.right (And.right (And.right (by assumption)))) | exact (And.right (And.right (And.right (by assumption)))) | exact And.left (And.right (And.right (And.right (And.right (by assumption))))) | exact (And.right (And.right (And.right (And.right (by assumption))))) | exact And.left (And.right (And.right (And.right (And.right (And.right (by assumption)))))) | exact (And.right (And.right (And.right (And.right (And.right (by assumption)))))) | exact And.left (And.right (And.right (And.right (And.right (And.right (And.right (by assumption))))))) | exact (And.right (And.right (And.right (And.right (And.right (And.right (by assumption))))))) | exact And.left (And.right (And.right (And.right (And.right (And.right (And.right (And.right (by assumption)))))))) | exact (And.right (And.right (And.right (And.right (And.right (And.right (And.right (by assumption)))))))) | exact And.left (And.right (And.right (And.right (And.right (And.right (And.right (And.right (And.right (by assumption))))))))) | exact (And.right (And.right (And.right (And.right (And.right (And.right (And.right (And.right (by assumption))))))))) | exact And.left (And.right (And.right (And.right (And.right (And.right (And.right (And.right (And.right (And.right (by assumption)))))))))) | exact (And.right (And.right (And.right (And.right (And.right (And.right (And.right (And.right (And.right (by assumption)))))))))) | exact And.left (And.right (And.right (And.right (And.right (And.right (And.right (And.right (And.right (And.right (And.right (by assumption))))))))))) | exact (And.right (And.right (And.right (And.right (And.right (And.right (And.right (And.right (And.right (And.right (by assumption))))))))))) | exact And.left (And.right (And.right (And.right (And.right (And.right (And.right (And.right (And.right (And.right (And.right (And.right (by assumption)))))))))))) | exact (And.right (And.right (And.right (And.right (And.right (And.right (And.right (And.right (And.right (And.right (And.right (by assumption)))))))))))) | exact And.left (And.right (And.right (And.right (And.right (And.right (And.right (And.right (And.right (And.right (And.right (And.right (And.right (by assumption))))))))))))) | exact (And.right (And.right (And.right (And.right (And.right (And.right (And.right (And.right (And.right (And.right (And.right (And.right (by assumption))))))))))))) | exact And.left (And.right (And.right (And.right (And.right (And.right (And.right (And.right (And.right (And.right (And.right (And.right (And.right (And.right (by assumption)))))))))))))) | exact (And.right (And.right (And.right (And.right (And.right (And.right (And.right (And.right (And.right (And.right (And.right (And.right (And.right (by assumption)))))))))))))) | exact And.left (And.right (And.right (And.right (And.right (And.right (And.right (And.right (And.right (And.right (And.right (And.right (And.right (And.right (And.right (by assumption))))))))))))))) | exact (And.right (And.right (And.right (And.right (And.right (And.right (And.right (And.right (And.right (And.right (And.right (And.right (And.right (And.right (by assumption))))))))))))))) | exact And.left (And.right (And.right (And.right (And.right (And.right (And.right (And.right (And.right (And.right (And.right (And.right (And.right (And.right (And.right (And.right (by assumption)))))))))))))))) | exact (And.right (And.right (And.right (And.right (And.right (And.right (And.right (And.right (And.right (And.right (And.right (And.right (And.right (And.right (And.right (by assumption)))))))))))))))) | exact And.left (And.right (And.right (And.right (And.right (And.right (And.right (And.right (And.right (And.right (And.right (And.right (And.right (And.right (And.right (And.right (And.right (by assumption))))))))))))))))) | exact (And.right (And.right (And.right (And.right (And.right (And.right (And.right (And.right (And.right (And.right (And.right (And.right (And.right (And.right (And.right (And.right (by assumption))))))))))))))))) | exact And.left (And.right (And.right (And.right (And.right (And.right (And.right (And.right (And.right (And.right (And.right (And.right (And.right (And.right (And.right (And.right (And.right (And.right (by assumption)))))))))))))))))) | exact (And.right (And.right (And.right (And.right (And.right (And.right (And.right (And.right (And.right (And.right (And.right (And.right (And.right (And.right (And.right (And.right (And.right (by assumption)))))))))))))))))) | exact And.left (And.right (And.right (And.right (And.right (And.right (And.right (And.right (And.right (And.right (And.right (And.right (And.right (And.right (And.right (And.right (And.right (And.right (And.right (by assumption))))))))))))))))))) | exact (And.right (And.right (And.right (And.right (And.right (And.right (And.right (And.right (And.right (And.right (And.right (And.right (And.right (And.right (And.right (And.right (And.right (And.right (by assumption))))))))))))))))))) | exact And.left (And.right (And.right (And.right (And.right (And.right (And.right (And.right (And.right (And.right (And.right (And.right (And.right (And.right (And.right (And.right (And.right (And.right (And.right (And.right (by assumption)))))))))))))))))))) | exact (And.right (And.right (And.right (And.right (And.right (And.right (And.right (And.right (And.right (And.right (And.right (And.right (And.right (And.right (And.right (And.right (And.right (And.right (And.right (by assumption)))))))))))))))))))) | exact And.left (And.right (And.right (And.right (And.right (And.right (And.right (And.right (And.right (And.right (And.right (And.right (And.right (And.right (And.right (And.right (And.right (And.right (And.right (And.right (And.right (by assumption))))))))))))))))))))) | exact And.left (And.right (And.right (And.right (And.right (And.right (And.right (And.right (And.right (And.right (And.right (And.right (And.right (And.right (And.right (And.right (And.right (And.right (And.right (And.right (And.right (And.right (by assumption)))))))))))))))))))))) | exact And.left (And.right (And.right (And.right (And.right (And.right (And.right (And.right (And.right (And.right (And.right (And.right (And.right (And.right (And.right (And.right (And.right (And.right (And.right (And.right (And.right (And.right (And.right (by assumption))))))))))))))))))))))) | exact And.left (And.right (And.right (And.right (And.right (And.right (And.right (And.right (And.right (And.right (And.right (And.right (And.right (And.right (And.right (And.right (And.right (And.right (And.right (And.right (And.right (And.right (And.right (And.right (by assumption)))))))))))))))))))))))) | exact And.left (And.right (And.right (And.right (And.right (And.right (And.right (And.right (And.right (And.right (And.right (And.right (And.right (And.right (And.right (And.right (And.right (And.right (And.right (And.right (And.right (And.right (And.right (And.right (And.right (by assumption))))))))))))))))))))))))) | exact And.left (And.right (And.right (And.right (And.right (And.right (And.right (And.right (And.right (And.right (And.right (And.right (And.right (And.right (And.right (And.right (And.right (And.right (And.right (And.right (And.right (And.right (And.right (And.right (And.right (And.right (by assumption)))))))))))))))))))))))))) | exact And.left (And.right (And.right (And.right (And.right (And.right (And.right (And.right (And.right (And.right (And.right (And.right (And.right (And.right (And.right (And.right (And.right (And.right (And.right (And.right (And.right (And.right (And.right (And.right (And.right (And.right (And.right (by assumption))))))))))))))))))))))))))) | exact And.left (And.right (And.right (And.right (And.right (And.right (And.right (And.right (And.right (And.right (And.right (And.right (And.right (And.right (And.right (And.right (And.right (And.right (And.right (And.right (And.right (And.right (And.right (And.right (And.right (And.right (And.right (And.right (by assumption)))))))))))))))))))))))))))) | exact And.left (And.right (And.right (And.right (And.right (And.right (And.right (And.right (And.right (And.right (And.right (And.right (And.right (And.right (And.right (And.right (And.right (And.right (And.right (And.right (And.right (And.right (And.right (And.right (And.right (And.right (And.right (And.right (And.right (by assumption))))))))))))))))))))))))))))) | exact And.left (And.right (And.right (And.right (And.right (And.right (And.right (And.right (And.right (And.right (And.right (And.right (And.right (And.right (And.right (And.right (And.right (And.right (And.right (And.right (And.right (And.right (And.right (And.right (And.right (And.right (And.right (And.right (And.right (And.right (by assumption))))))))))))))))))))))))))))))) | fail "no")
  k_with "my k_ne" => (first | ((refine neN ?_; (try dsimp only); first | (refine Nat.ne_of_lt ?_; walk_at "my lt") | (refine Nat.ne_of_gt ?_; walk_at "my lt") | walk_at "my lt" | (refine Ne.symm ?_; walk_at "my lt") | omega)) | fail "no")
  k_with "my binds" => (first | (first | exact BindsTo.of_eq (binds := [(_, _)]) rfl | exact BindsTo.of_eq (binds := [(_, _), (_, _)]) rfl | exact BindsTo.of_eq (binds := [(_, _), (_, _), (_, _)]) rfl | exact BindsTo.of_eq (binds := [(_, _), (_, _), (_, _), (_, _)]) rfl | exact BindsTo.of_eq rfl) | fail "no")
  k_with "my call ref" => (first | ((k_here; k_dflt (refine call_cls (by k_asm) (by k_asm) (by k_asm) (by k_is) (by k_is) (by k_is) ?_; k_whole; intro wxzw wdzw whzw wFzw wNzw wl1w wl2w; (try k_lt wl1w); (try k_lt2 wl2w); (try k_sweep)); k_dflt (walk_at "my nest"))) | fail "no")
  k_with "my sub" => (first | (repeat (first | exact List.forall_mem_nil _ | refine List.forall_mem_cons.mpr ⟨by k_mem, ?_⟩)) | fail "no")
  k_with "my call ref" => (first | ((k_here; (with_reducible show wpAny _ _ (call (Value.ref 509) _) _ _ _); k_dflt (refine use_upd (take_con _ _ _ _ _ _ _ _ _) ⟨(by k_asm), (by k_asm), (by k_asm), (by k_asm), (by k_asm), (by first | exact rfl | assumption), (by ktr_room), (by ktr_units)⟩ (by walk_at "my sub") (by k_updF) ⟨(by assumption), (by decide), (by decide)⟩ ?_; k_whole); (rintro wvzw wozw wnewzw whzw wtkzw wFzw wNzw - - ⟨we1w, wdzw, wtzw, wazw, wtazw, wbzw, wtbzw, wnzw, we2w, whd0w, whd1w, whsrcw, we3w⟩); subst we1w; subst we2w; subst we3w; (try simp only [List.nil_append] at wNzw); (try k_sweep))) | fail "no")
  k_with "my rows" => (first | (exact RowsAt.keep (by assumption) (Fr.keep (by k_asm))) | fail "no")
  k_with "my call builtin:len" => (first | ((k_here; (with_reducible show wpAny _ _ (call (Value.builtin "len") [Value.ref _]) _ _ _); k_dflt (refine rows_len (by k_asm) (by k_mem) (by assumption) (by omega) ?_; k_whole; intro wtzw wtkzw))) | fail "no")
  k_with "my arith" => (first | (first | omega | ((simp (disch := omega) only [Int.fdiv_eq_ediv_of_nonneg, Int.fmod_eq_emod_of_nonneg]); omega)) | fail "no")
  k_with "my call ref" => (first | ((k_here; (with_reducible show wpAny _ _ (call (Value.ref 178) _) _ _ _); k_dflt (refine use_new (place_con _ _ _ _ _ _ _ _ _ _ _ _ _ _) ⟨(by k_asm), (by k_asm), (by k_asm), (by k_asm), (by k_asm), (by first | exact rfl | assumption), (by ktr_room), (by ktr_units)⟩ (by walk_at "my sub") ⟨(by walk_at "my rows"), (by assumption), (by assumption)⟩ ?_; k_whole); (rintro wvzw wnewzw whzw wtkzw wFzw wNzw - - ⟨we1w, wtzw, we2w⟩); subst we1w; subst we2w; (try simp only [List.nil_append] at wNzw); (try k_sweep))) | fail "no")
  k_with "my call ref" => (first | ((k_here; (with_reducible show wpAny _ _ (call (Value.ref 262) _) _ _ _); k_dflt (refine use_new (valid_con _ _ _ _ _ _ _ _ _ _ _ _) ⟨(by k_asm), (by k_asm), (by k_asm), (by k_asm), (by k_asm), (by first | exact rfl | assumption), (by ktr_room), (by ktr_units)⟩ (by walk_at "my sub") ⟨(by walk_at "my rows"), (by assumption)⟩ ?_; k_whole); (rintro wvzw wnewzw whzw wtkzw wFzw wNzw - - ⟨we1w, we2w⟩); subst we1w; subst we2w; (try simp only [List.nil_append] at wNzw); (try k_sweep))) | fail "no")
  k_with "my tab post" => (first | (((rintro wvzw wozw wnewzw whzw wtkzw wFzw wNzw - - ⟨we1w, we2w, wtpzw, we3w⟩); subst we1w; subst we2w; subst we3w; (try simp only [List.nil_append] at wNzw); (try k_sweep))) | fail "no")
  k_with "my call ref" => (first | ((k_here; (with_reducible show wpAny _ _ (call (Value.ref 192) _) _ _ _); k_dflt (refine use_upd (stand_con _ _ _ _ _ _ _ _ _ _ _ _ _ _) ⟨(by k_asm), (by k_asm), (by k_asm), (by k_asm), (by k_asm), (by first | exact rfl | assumption), (by ktr_room), (by ktr_units)⟩ (by walk_at "my sub") (by k_updF) ⟨(by walk_at "my rows"), (by assumption)⟩ ?_; k_whole); walk_at "my tab post")) | fail "no")
  k_with "my call ref" => (first | ((k_here; (with_reducible show wpAny _ _ (call (Value.ref 234) _) _ _ _); k_dflt (refine use_upd (seek_ge_con _ _ _ _ _ _ _ _ _ _ _ _ _ _) ⟨(by k_asm), (by k_asm), (by k_asm), (by k_asm), (by k_asm), (by first | exact rfl | assumption), (by ktr_room), (by ktr_units)⟩ (by walk_at "my sub") (by k_updF) ⟨(by walk_at "my rows"), (by assumption), (by assumption)⟩ ?_; k_whole); walk_at "my tab post")) | fail "no")
  k_with "my call ref" => (first | ((k_here; (with_reducible show wpAny _ _ (call (Value.ref 241) _) _ _ _); k_dflt (refine use_upd (seek_gt_con _ _ _ _ _ _ _ _ _ _ _ _ _ _) ⟨(by k_asm), (by k_asm), (by k_asm), (by k_asm), (by k_asm), (by first | exact rfl | assumption), (by ktr_room), (by ktr_units)⟩ (by walk_at "my sub") (by k_updF) ⟨(by walk_at "my rows"), (by assumption), (by assumption)⟩ ?_; k_whole); walk_at "my tab post")) | fail "no")
  k_with "my call ref" => (first | ((k_here; (with_reducible show wpAny _ _ (call (Value.ref 248) _) _ _ _); k_dflt (refine use_upd (seek_le_con _ _ _ _ _ _ _ _ _ _ _ _ _ _) ⟨(by k_asm), (by k_asm), (by k_asm), (by k_asm), (by k_asm), (by first | exact rfl | assumption), (by ktr_room), (by ktr_units)⟩ (by walk_at "my sub") (by k_updF) ⟨(by walk_at "my rows"), (by assumption), (by assumption)⟩ ?_; k_whole); walk_at "my tab post")) | fail "no")
  k_with "my call ref" => (first | ((k_here; (with_reducible show wpAny _ _ (call (Value.ref 255) _) _ _ _); k_dflt (refine use_upd (seek_lt_con _ _ _ _ _ _ _ _ _ _ _ _ _ _) ⟨(by k_asm), (by k_asm), (by k_asm), (by k_asm), (by k_asm), (by first | exact rfl | assumption), (by ktr_room), (by ktr_units)⟩ (by walk_at "my sub") (by k_updF) ⟨(by walk_at "my rows"), (by assumption), (by assumption)⟩ ?_; k_whole); walk_at "my tab post")) | fail "no")
  k_with "my tab post2" => (first | (((rintro wvzw wozw wnewzw whzw wtkzw wFzw wNzw - - ⟨we1w, wpzw, whpzw, we2w, wtpzw, we3w⟩); subst we1w; subst we2w; subst we3w; (try simp only [List.nil_append] at wNzw); (try k_sweep))) | fail "no")
  k_with "my call ref" => (first | ((k_here; (with_reducible show wpAny _ _ (call (Value.ref 213) _) _ _ _); k_dflt (refine use_upd (next_con _ _ _ _ _ _ _ _ _ _ _ _) ⟨(by k_asm), (by k_asm), (by k_asm), (by k_asm), (by k_asm), (by first | exact rfl | assumption), (by ktr_room), (by ktr_units)⟩ (by walk_at "my sub") (by k_updF) ⟨(by walk_at "my rows"), (by assumption)⟩ ?_; k_whole); walk_at "my tab post2")) | fail "no")
  k_with "my tab post2" => (first | (((rintro wvzw wozw wnewzw whzw wtkzw wFzw wNzw - - ⟨we1w, wpzw, whpzw, we2w, wtpzw, we3w⟩); subst we1w; subst we2w; subst we3w; (try simp only [List.nil_append] at wNzw); (try k_sweep))) | fail "no")
  k_with "my call ref" => (first | ((k_here; (with_reducible show wpAny _ _ (call (Value.ref 220) _) _ _ _); k_dflt (refine use_upd (prev_con _ _ _ _ _ _ _ _ _ _ _ _) ⟨(by k_asm), (by k_asm), (by k_asm), (by k_asm), (by k_asm), (by first | exact rfl | assumption), (by ktr_room), (by ktr_units)⟩ (by walk_at "my sub") (by k_updF) ⟨(by walk_at "my rows"), (by assumption)⟩ ?_; k_whole); walk_at "my tab post2")) | fail "no")
  k_with "my call ref" => (first | ((k_here; (with_reducible show wpAny _ _ (call (Value.ref 269) _) _ _ _); k_dflt (refine use_new (ask_con _ _ _ _ _ _ _ _ _ _ _ _) ⟨(by k_asm), (by k_asm), (by k_asm), (by k_asm), (by k_asm), (by first | exact rfl | assumption), (by ktr_room), (by ktr_units)⟩ (by walk_at "my sub") ⟨(by walk_at "my rows"), (by assumption), (by omega), (by omega)⟩ ?_; k_whole); (rintro wvzw wnewzw whzw wtkzw wFzw wNzw - - ⟨we1w, we2w⟩); subst we1w; subst we2w; (try simp only [List.nil_append] at wNzw); (try k_sweep))) | fail "no")
  k_with "my call ref" => (first | ((k_here; (with_reducible show wpAny _ _ (call (Value.ref 276) _) _ _ _); k_dflt (refine use_new (rowid_con _ _ _ _ _ _ _ _ _ _ _ _) ⟨(by k_asm), (by k_asm), (by k_asm), (by k_asm), (by k_asm), (by first | exact rfl | assumption), (by ktr_room), (by ktr_units)⟩ (by walk_at "my sub") ⟨(by walk_at "my rows"), (by assumption), (by omega), (by omega)⟩ ?_; k_whole); (rintro wvzw wnewzw whzw wtkzw wFzw wNzw - - ⟨we1w, wtzw, we2w⟩); subst we1w; subst we2w; (try simp only [List.nil_append] at wNzw); (try k_sweep))) | fail "no")
  k_with "my call builtin:list.insert" => (first | ((k_here; (with_reducible show wpAny _ _ (call (Value.builtin _) [Value.ref _, Value.int _ _, _]) _ _ _); k_dflt (refine rows_ins (by k_asm) (by k_asm) (by k_upd) (by omega) (by omega) ?_; k_whole; intro whzw wFzw wNzw; (try k_sweep)))) | fail "no")
  k_with "my call ref" => (first | ((k_here; (with_reducible show wpAny _ _ (call (Value.ref 171) _) _ _ _); k_dflt (refine use_upd (insert_con _ _ _ _ _ _ _ _ _ _ _ _ _ _) ⟨(by k_asm), (by k_asm), (by k_asm), (by k_asm), (by k_asm), (by first | exact rfl | assumption), (by ktr_room), (by ktr_units)⟩ (by walk_at "my sub") (by k_updF) ⟨(by walk_at "my rows"), (by assumption), (by assumption), (by assumption)⟩ ?_; k_whole); (rintro wvzw wozw wnewzw whzw wtkzw wFzw wNzw - whneww ⟨we1w, wtazw, wttzw, wnnzw, wnzw, we2w, we3w⟩); subst we1w; subst we2w; subst we3w; (try simp only [List.nil_append, List.cons_append] at wNzw); (try k_sweep))) | fail "no")
  k_with "my call ref" => (first | ((k_here; (with_reducible show wpAny _ _ (call (Value.ref 28) _) _ _ _); k_dflt (refine use_new (seek_word_con _ _ _) ⟨(by k_asm), (by k_asm), (by k_asm), (by k_asm), (by k_asm), (by first | exact rfl | assumption), (by ktr_room), (by ktr_units)⟩ (by walk_at "my sub") (by trivial) ?_; k_whole); (rintro wvzw wnewzw whzw wtkzw wFzw wNzw - - ⟨we1w, wtzw, we2w⟩); subst we1w; subst we2w; (try simp only [List.nil_append] at wNzw); (try k_sweep))) | fail "no")
  k_with "my call ref" => (first | ((k_here; (with_reducible show wpAny _ _ (call (Value.ref 35) _) _ _ _); k_dflt (refine use_new (past_word_con _ _ _) ⟨(by k_asm), (by k_asm), (by k_asm), (by k_asm), (by k_asm), (by first | exact rfl | assumption), (by ktr_room), (by ktr_units)⟩ (by walk_at "my sub") (by trivial) ?_; k_whole); (rintro wvzw wnewzw whzw wtkzw wFzw wNzw - - ⟨we1w, wtzw, we2w⟩); subst we1w; subst we2w; (try simp only [List.nil_append] at wNzw); (try k_sweep))) | fail "no")
  k_with "my call ref" => (first | ((k_here; (with_reducible show wpAny _ _ (call (Value.ref 530) _) _ _ _); k_dflt (refine use_new (is_past_con _ _ _ _ _ _ _ _) ⟨(by k_asm), (by k_asm), (by k_asm), (by k_asm), (by k_asm), (by first | exact rfl | assumption), (by ktr_room), (by ktr_units)⟩ (by walk_at "my sub") (by trivial) ?_; k_whole); (rintro wvzw wnewzw whzw wtkzw wFzw wNzw - - ⟨we1w, we2w⟩); subst we1w; subst we2w; (try simp only [List.nil_append] at wNzw); (try k_sweep))) | fail "no")
  k_with "my call ref" => (first | ((k_here; (with_reducible show wpAny _ _ (call (Value.ref 523) _) _ _ _); k_dflt (refine use_upd (law_stand_con _ _ _ _ _ _ _ _ _ _ _ _ _ _ _ _ _) ⟨(by k_asm), (by k_asm), (by k_asm), (by k_asm), (by k_asm), (by first | exact rfl | assumption), (by ktr_room), (by ktr_units)⟩ (by walk_at "my sub") (by k_updF) ⟨(by walk_at "my rows"), (by assumption), (by assumption)⟩ ?_; k_whole); walk_at "my tab post")) | fail "no")
  k_with "my call builtin:list.append" => (first | ((k_here; (with_reducible show wpAny _ _ (call (Value.builtin _) [Value.ref _, Value.int _ _]) _ _ _); k_dflt (refine app_ints (by k_asm) (by k_asm) (by k_upd) (by assumption) ?_; k_whole); intro whzw wFzw wNzw; (try k_sweep))) | fail "no")
  k_with "my tail" => (first | ((intro wpw whpw; repeat (first | exact whpw | exact List.mem_append_left _ whpw | refine List.mem_cons_of_mem _ ?_))) | fail "no")
  k_with "my rows" => (first | (exact RowsIn.at (by assumption) (by k_asm) (by walk_at "my tail")) | fail "no")
  k_with "my sub2" => (first | (((repeat (refine List.forall_mem_cons.mpr ⟨by k_mem, ?_⟩)); walk_at "my tail")) | fail "no")
  k_with "my call type:set cons nil" => (first | ((k_here; (with_reducible show wpAny _ _ (call (Value.type "set") [Value.ref _]) _ _ _); k_dflt (refine set_list_N (by k_asm) (by k_asm) (by exact rfl) (by exact News.isList (by k_asm) (by k_mem)) (by assumption) (by omega) (by assumption) ?_; k_whole); intro wazw wozw whzw wtkzw wFzw wNzw wl1w whOw; (try k_lt wl1w); (try k_sweep))) | fail "no")
  k_with "my call builtin:sorted" => (first | ((k_here; (with_reducible show wpAny _ _ (call (Value.builtin "sorted") [Value.ref _]) _ _ _); k_dflt (refine sorted_set_N (by exact rfl) (by k_asm) (by k_asm) (by k_mem) (by assumption) (by omega) ?_; k_whole); intro wDzw wvzw wnzw wxzw whzw wtkzw wFzw wNzw wl1w whIw whIncw whLenw; (try k_lt wl1w); (try k_sweep))) | fail "no")
  k_with "my call ref" => (first | ((k_here; (with_reducible show wpAny _ _ (call (Value.ref 537) _) _ _ _); k_dflt (refine use_new (law_walk_con _ _ _ _ _ _ _ _ _ _ _ _ _ _ _) ⟨(by k_asm), (by k_asm), (by k_asm), (by k_asm), (by k_asm), (by first | exact rfl | assumption), (by ktr_room), (by ktr_units)⟩ (by walk_at "my sub") ⟨(by exact News.isList (by k_asm) (by k_mem)), (by assumption), (by assumption), (by omega), (by exact News.at_ (by k_asm) (by k_mem)), (by exact News.at_ (by k_asm) (by k_mem))⟩ ?_; k_whole); (rintro wvzw wnewzw whzw wtkzw wFzw wNzw - - ⟨wDzw, wuszw, wnzw, we1w, we2w, whWw⟩; subst we1w; subst we2w; (replace whWw := due_walked (by assumption) whWw); (simp only [if_true, if_false, Bool.false_eq_true] at whWw); (try simp only [List.cons_append, List.nil_append] at wNzw); (try k_sweep)))) | fail "no")
  k_with "my due" => (first | (first
  | exact due_no (by assumption) (fun z h1 h2 => by simp only [if_neg h1, if_neg h2]) (by assumption) (by assumption) (Bool.eq_false_iff.mpr (by simp only [dueP, ne_eq, Bool.and_eq_true, Bool.or_eq_true, decide_eq_true_eq, beq_iff_eq]; omega))
  | exact due_yes (by assumption) (fun z h1 h2 => by simp only [if_neg h1, if_neg h2]) (by assumption) (by assumption) (by simp only [dueP, Bool.and_eq_true, Bool.or_eq_true, decide_eq_true_eq, beq_iff_eq]; omega)) | fail "no")
  k_with "my call ref" => (first | ((k_here; (with_reducible show wpAny _ _ (call (Value.ref 542) _) _ _ _); k_dflt (refine use_upd (law_right_con _ _ _ _ _ _ _) ⟨(by k_asm), (by k_asm), (by k_asm), (by k_asm), (by k_asm), (by first | exact rfl | assumption), (by ktr_room), (by ktr_units)⟩ (by walk_at "my sub") (by k_updF) (by assumption) ?_; k_whole); (rintro wvzw wozw wnewzw whzw wtkzw wFzw wNzw - - ⟨we1w, we2w, wazw, wtazw, wbzw, wtbzw, wnzw, whokzw, we3w⟩; subst we1w; subst we2w; subst we3w; (try simp only [List.nil_append] at wNzw); (try k_sweep)))) | fail "no")
  k_with "my nest" => (first | (((with_reducible show codeAny _ _ (Code.call (Value.ref 383) _) _ _); (refine use_init ⟨(by k_asm), (by k_asm), (by k_asm), (by k_asm), (by k_asm), (by first | exact rfl | assumption), (by (simp only [w_call, depth_deeper, depth_caller]; first | omega | decide)), (by (simp only [u_call, units_deeper, units_caller]; first | omega | decide | (rw [cLine_is]; omega)))⟩ (by k_mem) (by k_updF) (by first | assumption | omega) (by first | exact BindsTo.of_eq rfl | exact binds_K (by k_in) rfl (by k_is) rfl rfl rfl) ?_); k_whole; (intro wt0w wt1w wt2w wt3w wt4w wt5w wt6w wt7w wt8w wt9w wt10w wt11w wt12w wt13w wt14w wE1w wE2w wrww wcow whzw wtkzw wFzw wNzw whnew whEw; (simp only [List.forall_mem_cons, List.not_mem_nil, false_implies, implies_true, and_true, and_assoc] at whnew); (refine ⟨rfl, ?_⟩); (try dsimp only); (try k_fold)))) | fail "no")
  k_with "my nest" => (first | (((with_reducible show codeAny _ _ (Code.call (Value.ref 453) _) _ _); (refine use_index ⟨(by k_asm), (by k_asm), (by k_asm), (by k_asm), (by k_asm), (by first | exact rfl | assumption), (by (simp only [w_call, depth_deeper, depth_caller]; first | omega | decide)), (by (simp only [u_call, units_deeper, units_caller]; first | omega | decide | (rw [cLine_is]; omega)))⟩ (by k_mem) (by k_updF) (by first | assumption | omega) (by exact BindsTo.of_eq rfl) ?_); k_whole; (intro wu0w wu1w wu2w wu3w wu4w wu5w wu6w whzw wtkzw wFzw wNzw; (refine ⟨rfl, ?_⟩); (try dsimp only); (try k_fold)))) | fail "no")
  k_with "my call ref" => (first | ((k_here; (with_reducible show wpAny _ _ (call (Value.ref 425) _) _ _ _); k_dflt (refine use_new (nip_con _ _ _ _ _) ⟨(by k_asm), (by k_asm), (by k_asm), (by k_asm), (by k_asm), (by first | exact rfl | assumption), (by ktr_room), (by ktr_units)⟩ (by walk_at "my sub") trivial ?_; k_whole); (rintro wvzw wnewzw whzw wtkzw wFzw wNzw - whnew ⟨wpazw, wdxzw, wt0w, wt1w, wt2w, wt3w, wt4w, wt5w, wt6w, wt7w, wt8w, wt9w, wt10w, wt11w, wt12w, wt13w, wt14w, wtkw, wE1w, wE2w, wrww, wcow, wn1w, wn2w, we1w, we2w, whow⟩; subst we1w; subst we2w; (simp only [List.forall_mem_cons, List.not_mem_nil, false_implies, implies_true, and_true, and_assoc] at whnew); (try simp only [List.cons_append, List.nil_append] at wNzw); (try k_sweep)))) | fail "no")
  k_with "my call ref" => (first | ((k_here; (with_reducible show wpAny _ _ (call (Value.ref 502) _) _ _ _); k_dflt (refine use_new (law_pool_con _ _ _ _ _ _) ⟨(by k_asm), (by k_asm), (by k_asm), (by k_asm), (by k_asm), (by first | exact rfl | assumption), (by ktr_room), (by ktr_units)⟩ (by walk_at "my sub") ⟨(by kmk_list), (by assumption), (by omega), (by omega), (by omega)⟩ ?_; k_whole); (rintro wvzw wnewzw whzw wtkzw wFzw wNzw - - ⟨wDzw, wazw, wtazw, wbzw, wtbzw, wnzw, we1w, we2w, whokzw⟩; subst we1w; subst we2w; (try simp only [List.cons_append, List.nil_append] at wNzw); (try k_sweep)))) | fail "no")
  k_with "my call ref" => (first | ((k_here; (with_reducible show wpAny _ _ (call (Value.ref 516) _) _ _ _); k_dflt (refine use_upd (law_one_con _ _ _ _ _ _ _ _ _ _ _ _ _) ⟨(by k_asm), (by k_asm), (by k_asm), (by k_asm), (by k_asm), (by first | exact rfl | assumption), (by ktr_room), (by ktr_units)⟩ (by walk_at "my sub") (by k_updF) ⟨(by assumption), (by first | assumption | omega)⟩ ?_; k_whole); (rintro wvzw wozw wnewzw whzw wtkzw wFzw wNzw - - ⟨we1w, wnmzw, wtzw, wazw, wtazw, wbzw, wtbzw, wnzw, we2w, whnmw, whsrcw, we3w⟩); subst we1w; subst we2w; subst we3w; (try simp only [List.nil_append] at wNzw); (try k_sweep))) | fail "no")
  k_with "my subscriptTail" => (first | ((k_here; (with_reducible show wpAny _ _ (subscriptTail _ _ (Value.ref _) (Value.int _ _)) _ _ _); k_dflt (refine pick3 (by k_asm) (by k_mem) (by assumption) (by assumption) ?_ (by with_unfolding_all rfl); k_whole); intro wnmzw wtzw whkdzw)) | fail "no")
  k_with "my call builtin:str.lower" => (first | ((k_here; (with_reducible show wpAny _ _ (call (Value.builtin "str.lower") [Value.str _ _]) _ _ _); k_dflt (refine PySem.W.KXw.lower (Eq.refl _) (by exact low_fits (by assumption)) ?_; k_whole); intro wtzw wtkzw)) | fail "no")
  k_with "my fresh" => (first | (k_dflt (refine fresh1 ?_; repeat (first | exact List.forall_mem_nil _ | refine List.forall_mem_cons.mpr ⟨by (dsimp only; omega), ?_⟩))) | fail "no")
  k_with "my call ref" => (first | ((k_here; (with_reducible show wpAny _ _ (call (Value.ref 368) _) _ _ _); k_dflt (refine use_new (fold_con _ _ _) ⟨(by k_asm), (by k_asm), (by k_asm), (by k_asm), (by k_asm), (by first | exact rfl | assumption), (by ktr_room), (by ktr_units)⟩ (by walk_at "my sub") ⟨(by assumption), (by assumption)⟩ ?_; k_whole); (rintro wvzw wnewzw whzw wtkzw wFzw wNzw - - ⟨we1w, wtzw, we2w⟩); subst we1w; subst we2w; (try simp only [List.nil_append] at wNzw); (try k_sweep))) | fail "no")
  k_with "my all" => (first | ((intro wpw whpw; repeat (first | exact whpw | exact List.mem_append_left _ whpw | refine List.mem_cons_of_mem _ ?_))) | fail "no")
  k_with "my call ref" => (first | ((k_here; (with_reducible show wpAny _ _ (call (Value.ref 390) _) _ _ _); k_dflt (refine use_newP (is_led_con _ _ _ _ _ _ _) ⟨(by k_asm), (by k_asm), (by k_asm), (by k_asm), (by k_asm), (by first | exact rfl | assumption), (by ktr_room), (by ktr_units)⟩ (by assumption) (by walk_at "my all") ?_; k_whole); (rintro wvzw wnewzw whzw wtkzw wFzw wNzw - - ⟨we1w, we2w⟩); subst we1w; subst we2w; (try simp only [List.nil_append] at wNzw); (try k_sweep))) | fail "no")
  k_with "my call ref" => (first | ((k_here; (with_reducible show wpAny _ _ (call (Value.ref 432) _) _ _ _); k_dflt (refine use_newP (is_wanted_con _ _ _ _ _ _ _ _ _) ⟨(by k_asm), (by k_asm), (by k_asm), (by k_asm), (by k_asm), (by first | exact rfl | assumption), (by ktr_room), (by ktr_units)⟩ (by assumption) (by walk_at "my all") ?_; k_whole); (rintro wvzw wnewzw whzw wtkzw wFzw wNzw - - ⟨we1w, we2w⟩); subst we1w; subst we2w; (try simp only [List.nil_append] at wNzw); (try k_sweep))) | fail "no")
  k_with "my let" => (first | (first
  | (refine use_new (let_none_con _ _) ⟨(by k_asm), (by k_asm), (by k_asm), (by k_asm), (by k_asm), (by first | exact rfl | assumption), (by ktr_room), (by ktr_units)⟩ (by walk_at "my sub") trivial ?_; k_whole)
  | (refine use_newP (let_scan_con _ _ _ _ _ _ _ _ _ _) ⟨(by k_asm), (by k_asm), (by k_asm), (by k_asm), (by k_asm), (by first | exact rfl | assumption), (by ktr_room), (by ktr_units)⟩ (by assumption) (by refine List.forall_mem_cons.mpr ⟨(by k_mem), (by walk_at "my all")⟩) ?_; k_whole)
  | (refine use_newP (let_index_con _ _ _ _ _ _ _ _ _ _ _ _) ⟨(by k_asm), (by k_asm), (by k_asm), (by k_asm), (by k_asm), (by first | exact rfl | assumption), (by ktr_room), (by ktr_units)⟩ ⟨(by assumption), (by first | assumption | decide +kernel), (by first | assumption | decide +kernel)⟩ (by refine List.forall_mem_cons.mpr ⟨(by k_mem), (by walk_at "my all")⟩) ?_; k_whole)) | fail "no")
  k_with "my call ref" => (first | ((k_here; (with_reducible show wpAny _ _ (call (Value.ref 439) _) _ _ _); k_dflt (walk_at "my let"); (rintro wvzw wnewzw whzw wtkzw wFzw wNzw - - ⟨we1w, we2w⟩); subst we1w; subst we2w; (try simp only [List.nil_append] at wNzw); (try k_sweep))) | fail "no")
  k_with "my call ref" => (first | ((k_here; (with_reducible show wpAny _ _ (call (Value.ref 556) _) _ _ _); k_dflt (refine use_newP (hints_con _ _ _ _ _ _ _ _) ⟨(by k_asm), (by k_asm), (by k_asm), (by k_asm), (by k_asm), (by first | exact rfl | assumption), (by ktr_room), (by ktr_units)⟩ (by assumption) (by walk_at "my all") ?_; k_whole); (rintro wvzw wnewzw whzw wtkzw wFzw wNzw - - ⟨we1w, we2w⟩); subst we1w; subst we2w; (try simp only [List.nil_append] at wNzw); (try k_sweep))) | fail "no")
  trivial
end
theorem words39 : True := by
  k_with "my call ref" => (first | ((k_here; (with_reducible show wpAny _ _ (call (Value.ref 556) _) _ _ _); k_dflt (refine use_newP (hints_con _ _ _ _ _ _ _ _) ⟨(by k_asm), (by k_asm), (by k_asm), (by k_asm), (by k_asm), (by first | exact rfl | assumption), (by ktr_room), (by ktr_units)⟩ (by assumption) (by walk_at "my all") ?_; k_whole); (rintro wvzw wnewzw whzw wtkzw wFzw wNzw - - ⟨we1w, we2w⟩); subst we1w; subst we2w; (try simp only [List.nil_append] at wNzw); (try k_sweep))) | fail "no")
  trivial
noncomputable abbrev quadOf (bw : Bool) (lt ht ll : Addr) (n : Nat) : Obj := { cls := .type "tuple", data := .seq #[.bool bw, .ref lt, .ref ht, .ref ll] n }
noncomputable abbrev rowWant (bw : Bool) (lo : Int) (li : Bool) (hi : Int) (hii : Bool) : List Int := if bw then (dueOf [1, 3, 5] lo li hi hii).reverse else dueOf [1, 3, 5] lo li hi hii
def RowOk (v : Value) (news : List (Addr × Obj)) : Prop :=
  ∃ tr bw lt ht ll n lo tlo li nlo hi thi hii nhi us nl, v = .ref tr ∧ (tr, quadOf bw lt ht ll n) ∈ news ∧ (lt, pairOf lo tlo li nlo) ∈ news ∧ (ht, pairOf hi thi hii nhi) ∈ news ∧ (ll, listOf (List.toArray us) nl) ∈ news ∧ IntsAre us (rowWant bw lo li hi hii)
theorem row_ok {tr lt ht ll : Addr} {bw li hii : Bool} {n nlo nhi nl : Nat} {lo hi : Int} {tlo thi : Tok} {us : List Value} {l : List Int} {news : List (Addr × Obj)} (h1 : (tr, quadOf bw lt ht ll n) ∈ news) (h2 : (lt, pairOf lo tlo li nlo) ∈ news) (h3 : (ht, pairOf hi thi hii nhi) ∈ news) (h4 : (ll, listOf (List.toArray us) nl) ∈ news) (h5 : IntsAre us l) (h6 : l = rowWant bw lo li hi hii) : RowOk (.ref tr) news :=
  ⟨_, _, _, _, _, _, _, _, _, _, _, _, _, _, _, _, rfl, h1, h2, h3, h4, h6 ▸ h5⟩
def RowEnd (h₀ : Heap) (L : Addr) (m : Str → Option Value) (s₁ : Shared) (I : Addr) (oI : Obj) (C : Addr) (oC : Obj) (D : Addr) (S : List (Addr × Obj) → Prop) (nw : List (Addr × Obj)) (ok : Bool) (s' : Shared) : Prop :=
  ok = false ∧ LCg.CompEnd h₀ L m s₁ I oI C oC D (LCg.lst []) S (fun _ news' => news' = nw) Value.none s'
section
variable {prog : Program} {w : World} {A : Around} {h₀ : Heap} {L : Addr} {m : Str → Option Value} {env : PySem.Env} {ct elt : PySem.Expr} {x : Str} {scope : Scope} {cl : List (Str × Addr)} {s : Shared} {S : List (Addr × Obj) → Prop} {Fin : List Value → List (Addr × Obj) → Prop} {news : List (Addr × Obj)}
theorem comp_rows {its : Array Value} (hrow : ∀ v ∈ its.toList, RowOk v news)
    (turn : ∀ tr bw lt ht ll n lo tlo li nlo hi thi hii nhi us nl I oI C oC D m₂ h tk (E' : Value → Shared → Prop), IntsAre us (rowWant bw lo li hi hii) → LCg.NsObj oC m₂ → m₂ x = some (.ref tr) → Fr h₀ L h m →
      News h₀ L h ((I, oI) :: (C, oC) :: (D, LCg.lst []) :: (tr, quadOf bw lt ht ll n) :: (lt, pairOf lo tlo li nlo) :: (ht, pairOf hi thi hii nhi) :: (ll, listOf (List.toArray us) nl) :: news) → LCg.Off3 I C D news → ((@Ne Nat I C) ∧ (@Ne Nat I D) ∧ (@Ne Nat C D)) →
      wpAny (model prog w) A (isTrue ct (compEnvC scope cl C env) (eval ct (compEnvC scope cl C env))) (RowEnd h₀ L m { s with heap := h, toks := tk } I oI C oC D S news) E' { s with heap := h, toks := tk })
    (fin : Fin [] news) : LCt.CompRestT prog w A h₀ L m env ct elt x scope cl s S (fun i v => its[i]? = some v) Fin its.size 0 [] news := by
  have key : ∀ (j i : Nat), i + j = its.size → LCt.CompRestT prog w A h₀ L m env ct elt x scope cl s S (fun i v => its[i]? = some v) Fin j i [] news := by
    intro j
    induction j with
    | zero => exact fun _ _ => LCt.CompRestT.zero fin
    | succ j ih =>
      intro i hi
      refine LCt.CompRestT.succ ?_
      intro v I oI C oC D m₂ h tk E' hv hC hx F N off ne
      obtain ⟨tr, bw, lt, ht, ll, n, lo, tlo, li, nlo, hi', thi, hii, nhi, us, nl, rfl, h1, h2, h3, h4, h5⟩ := hrow v (by
        have := Array.mem_of_getElem? hv
        exact Array.mem_toList_iff.mpr this)
      have N2 : News h₀ L h ((I, oI) :: (C, oC) :: (D, LCg.lst []) :: (tr, quadOf bw lt ht ll n) :: (lt, pairOf lo tlo li nlo) :: (ht, pairOf hi' thi hii nhi) :: (ll, listOf (List.toArray us) nl) :: news) := by
        intro p hp
        have up : ∀ q ∈ news, q ∈ (I, oI) :: (C, oC) :: (D, LCg.lst []) :: news := fun q hq => .tail _ (.tail _ (.tail _ hq))
        simp only [List.mem_cons] at hp
        rcases hp with rfl | rfl | rfl | rfl | rfl | rfl | rfl | hp
        · exact N _ (.head _)
        · exact N _ (.tail _ (.head _))
        · exact N _ (.tail _ (.tail _ (.head _)))
        · exact N _ (up _ h1)
        · exact N _ (up _ h2)
        · exact N _ (up _ h3)
        · exact N _ (up _ h4)
        · exact N _ (up _ hp)
      refine wpAny_mono (turn tr bw lt ht ll n lo tlo li nlo hi' thi hii nhi us nl I oI C oC D m₂ h tk E' h5 hC hx F N2 off ne) (fun ok s' hq => ?_) fun _ _ e => e
      obtain ⟨rfl, h', tk', nw', e, F', N', off', hS, rfl⟩ := hq
      simp only [Bool.false_eq_true, if_false]
      exact ⟨h', tk', _, e, F', N', off', hS, ih (i + 1) (by omega)⟩
  exact key its.size 0 (by omega)
end
theorem row_end {h₀ : Heap} {L : Addr} {m : Str → Option Value} {s₁ : Shared} {I : Addr} {oI : Obj} {C : Addr} {oC : Obj} {D : Addr} {S : List (Addr × Obj) → Prop} {nw all : List (Addr × Obj)} {ok : Bool} {h' : Heap} {tk : Nat}
    (e : ok = false) (F : Fr h₀ L h' m) (N : News h₀ L h' all) (sub : ∀ p ∈ (I, oI) :: (C, oC) :: (D, LCg.lst []) :: nw, p ∈ all) (off : LCg.Off3 I C D nw) (hS : S nw) :
    RowEnd h₀ L m s₁ I oI C oC D S nw ok { s₁ with heap := h', toks := tk } := ⟨e, LCg.CompEnd.intro F N nw sub off hS rfl⟩
theorem path_ab {P : Params} {pa dx : Addr} {t0 t1 t2 t3 t4 t5 t6 t7 t8 t9 t10 t11 t12 t13 t14 : Tok} {tk : Tok} {ix E1 E2 : Addr} {rw co : Value} {n1 : Nat} {di : Addr} {u0 u1 u2 u3 u4 u5 u6 : Tok} {tn : Tok} {v1 v2 v3 v4 v5 v6 : Value} :
    PathAt P pa (Str.ofString "ab") true false true [(pa, instObj 407 dx), (dx, pathDict P t0 t1 t2 t3 t4 t5 t6 t7 t8 t9 t10 t11 t12 t13 t14 (Str.ofString "index") tk (.ref ix) E1 E2 true rw co), (E1, listOf #[] n1), (ix, instObj 470 di), (di, indexDict P u0 u1 u2 u3 u4 u5 u6 (Str.ofString "Ab") tn v1 v2 v3 v4 v5 v6)] := by
  have h := PathAt.index (P := P) (pa := pa) dx t0 t1 t2 t3 t4 t5 t6 t7 t8 t9 t10 t11 t12 t13 t14 (Str.ofString "Ab") tk ix E1 E2 false true rw co #[] n1 di u0 u1 u2 u3 u4 u5 u6 tn v1 v2 v3 v4 v5 v6 (.inl rfl) (.inl ⟨rfl, rfl⟩)
  rw [show Txt.lower (Str.ofString "Ab") = Str.ofString "ab" from by decide +kernel] at h
  exact h
theorem path_scan {P : Params} {pa dx : Addr} {t0 t1 t2 t3 t4 t5 t6 t7 t8 t9 t10 t11 t12 t13 t14 : Tok} {tk : Tok} {E1 E2 : Addr} {rw co : Value} {n1 : Nat} :
    PathAt P pa (Str.ofString "scan") false false false [(pa, instObj 407 dx), (dx, pathDict P t0 t1 t2 t3 t4 t5 t6 t7 t8 t9 t10 t11 t12 t13 t14 (Str.ofString "scan") tk .none E1 E2 false rw co), (E1, listOf #[] n1)] :=
  .plain dx t0 t1 t2 t3 t4 t5 t6 t7 t8 t9 t10 t11 t12 t13 t14 (Str.ofString "scan") (Str.ofString "scan") tk E1 E2 rw co n1 (.inl ⟨rfl, rfl⟩)
theorem inc135 : Inc [1, 3, 5] := by unfold Inc; decide
theorem rows_walked {us : List Value} {lo hi : Int} {li hii bw : Bool} (h : IntsAre us (if bw then walkOf true [1, 3, 5] hi hii lo li else walkOf false [1, 3, 5] lo li hi hii)) : IntsAre us (rowWant bw lo li hi hii) := due_walked inc135 h
local macro_rules | `(tactic| walk_at "my rows comp") => `(tactic| ((refine LCt.CompSrcT.ledger (by rfl) (by k_asm) (by k_asm) (by k_mem) (by exact Nat.le_of_ble_eq_true rfl) ?_); intro g'; (refine' comp_rows ?r ?turn ?fin); (case r => repeat (first | exact List.forall_mem_nil _ | refine' List.forall_mem_cons.mpr ⟨row_ok (by k_mem) (by k_mem) (by k_mem) (by k_mem) (by repeat constructor) (by decide), ?_⟩)); (case' turn => (intro tr bw lt ht ll n lo tlo li nlo hi thi hii nhi us nl I oI C oC D m₂ h tk E' hus hC hx F' N' off' ne'))))
theorem words41 : True := by
  k_with "my walk135" => (first | ((k_here; (with_reducible show wpAny _ _ (call (Value.ref 537) _) _ _ _); k_dflt (refine use_new (law_walk_con _ _ _ _ _ _ [1, 3, 5] _ _ _ _ _ _ _ _) ⟨(by k_asm), (by k_asm), (by k_asm), (by k_asm), (by k_asm), (by first | exact rfl | assumption), (by ktr_room), (by ktr_units)⟩ (by walk_at "my sub") ⟨(by exact News.isList (by k_asm) (by k_mem)), (by repeat constructor), (by exact inc135), (by decide), (by exact News.at_ (by k_asm) (by k_mem)), (by exact News.at_ (by k_asm) (by k_mem))⟩ ?_; k_whole); (rintro wvzw wnewzw whzw wtkzw wFzw wNzw - - ⟨wDzw, wuszw, wnzw, we1w, we2w, whWw⟩; subst we1w; subst we2w; (replace whWw := rows_walked whWw); (try simp only [List.cons_append, List.nil_append] at wNzw); (try k_sweep)))) | fail "no")
  k_with "my hints" => (first | ((k_here; (with_reducible show wpAny _ _ (call (Value.ref 556) _) _ _ _); first
  | (refine use_new (hints_con _ _ _ _ _ _ _ _) ⟨(by k_asm), (by k_asm), (by k_asm), (by k_asm), (by k_asm), (by first | exact rfl | assumption), (by ktr_room), (by ktr_units)⟩ (by walk_at "my sub") path_ab ?_; k_whole)
  | (refine use_new (hints_con _ _ _ _ _ _ _ _) ⟨(by k_asm), (by k_asm), (by k_asm), (by k_asm), (by k_asm), (by first | exact rfl | assumption), (by ktr_room), (by ktr_units)⟩ (by walk_at "my sub") path_scan ?_; k_whole)
  | (refine use_new (hints_con _ _ _ _ _ _ _ _) ⟨(by k_asm), (by k_asm), (by k_asm), (by k_asm), (by k_asm), (by first | exact rfl | assumption), (by ktr_room), (by ktr_units)⟩ (by walk_at "my all") (by assumption) ?_; k_whole))) | fail "no")
  trivial
theorem forget {M : Model} {A : Around} {α : Type} {t : Sem α} {Q : α → Shared → Prop} {E : Value → Shared → Prop} {s : Shared} {h₀ : Heap} {L : Addr} {m : Str → Option Value} (F : Fr h₀ L s.heap m) (h : ∀ h' tk, Fr h₀ L h' m → News h₀ L h' [] → wpAny M A t Q E { s with heap := h', toks := tk }) : wpAny M A t Q E s :=
  h s.heap s.toks F fun _ h => nomatch h
def Forgot : Prop := True
theorem forgetM {M : Model} {A : Around} {α : Type} {t : Sem α} {Q : α → Shared → Prop} {E : Value → Shared → Prop} {s : Shared} {h₀ : Heap} {L : Addr} {m : Str → Option Value} (F : Fr h₀ L s.heap m) (h : Forgot → ∀ h' tk, Fr h₀ L h' m → News h₀ L h' [] → wpAny M A t Q E { s with heap := h', toks := tk }) : wpAny M A t Q E s :=
  h trivial s.heap s.toks F fun _ h => nomatch h
def LawEnd (h₀ : Heap) (L : Addr) (s : Shared) (v : Str) (val : Value) (own : List (Addr × Obj)) (f : Flow) (s₂ : Shared) : Prop :=
  f = .next ∧ ∃ h' tk' m' news', s₂ = { s with heap := h', toks := tk' } ∧ Fr h₀ L h' m' ∧ m' v = some val ∧ News h₀ L h' news' ∧ ∀ p ∈ own, p ∈ news'
section
variable {prog : Program} {w : World} {A : Around} {E : Value → Shared → Prop} {s : Shared} {env : PySem.Env} {h₀ : Heap} {x : Str} {body : List Stmt} {Q : Flow → Shared → Prop}
theorem law_loop (v : Str) {val : Value} {r : Addr} {b₀ : Int} {t₀ u₀ v₀ : Tok} {n : Nat} {m₀ : Str → Option Value} {news : List (Addr × Obj)} (hxv : v ≠ x) (hv : m₀ v = some val)
    (hh : A.handled = none) (hr : IsRange s.heap r 0 b₀ 1 t₀ u₀ v₀) (hsmall : Builtin.Range.small 0 b₀ 1 = true) (hn : Builtin.Range.rangeSize 0 b₀ 1 = (n : Int)) (hn2 : n ≤ 2) (F : Fr h₀ env.locals s.heap m₀) (_N : News h₀ env.locals s.heap news)
    (turn : ∀ k t (u : Str → Option Value) h tk own, 0 ≤ k → k ≤ 1 → Fr h₀ env.locals h (fun y => if y = x then some (.int k t) else if y = v then some val else u y) → News h₀ env.locals h own →
      wpAny (model prog w) A (execs body env) (LawEnd h₀ env.locals s v val own) E { s with heap := h, toks := tk })
    (done : ∀ (u : Str → Option Value) h tk, Fr h₀ env.locals h u → News h₀ env.locals h [] → Q .next { s with heap := h, toks := tk }) :
    wpAny (model prog w) A (pyIter (.ref r)) (fun it s₂ => LoopAtV prog w A h₀ env x body Q E it s₂) E s := by
  refine iter_rangeS (σ := Unit) (news := []) (fun _ m nx => nx = [] ∧ m v = some val) (fun _ _ => ()) () hh hr hsmall hn F (fun _ h => nomatch h) ⟨rfl, hv⟩ ?_ ?_
  · rintro k t _ m₁ nx h tk own hk _ ⟨rfl, hm⟩ F₁ N₁
    have hk' := mem_rangeKs hk
    have em : (fun y => if y = x then some (Value.int k t) else m₁ y) = fun y => if y = x then some (.int k t) else if y = v then some val else m₁ y := by
      funext y
      by_cases h1 : y = x
      · simp [h1]
      · by_cases h2 : y = v
        · simp only [if_neg h1, if_pos h2]; rw [h2]; exact hm
        · simp only [if_neg h1, if_neg h2]
    rw [em] at F₁
    refine wpAny_mono (turn k t m₁ h tk own (by omega) (by omega) F₁ N₁) (fun f s₂ hf => ?_) fun _ _ e => e
    obtain ⟨rfl, h', tk', m', news', rfl, F', hv', N', hs⟩ := hf
    exact ⟨h', tk', m', news', [], rfl, F', N', (fun _ h => nomatch h), hs, rfl, rfl, hv'⟩
  · rintro m₁ nx h tk ⟨rfl, hm⟩ F₁ N₁
    exact done m₁ h tk F₁ N₁
end
theorem law_end {h₀ h' : Heap} {L : Addr} {s : Shared} {v : Str} {val : Value} {own news' : List (Addr × Obj)} {m' : Str → Option Value} {tk' : Nat} (F : Fr h₀ L h' m') (hv : m' v = some val) (N : News h₀ L h' news') (hs : ∀ p ∈ own, p ∈ news') : LawEnd h₀ L s v val own .next { s with heap := h', toks := tk' } := ⟨rfl, h', tk', m', news', rfl, F, hv, N, hs⟩
theorem news_nil {h₀ h : Heap} {L : Addr} {news : List (Addr × Obj)} (_ : News h₀ L h news) : News h₀ L h [] := fun _ h => nomatch h
theorem news_front {h₀ h : Heap} {L : Addr} {p : Addr × Obj} {a b : List (Addr × Obj)} (N : News h₀ L h (a ++ p :: b)) : News h₀ L h (p :: (a ++ b)) := fun q hq => N q (by
  simp only [List.mem_cons, List.mem_append] at hq ⊢
  rcases hq with h | h | h
  · exact .inr (.inl h)
  · exact .inl h
  · exact .inr (.inr h))
theorem ne_front {src : Addr} {o : Obj} {a b : List (Addr × Obj)} (h : ∀ p ∈ (src, o) :: b, ∀ q ∈ a, @Ne Nat p.1 q.1) (hb : ∀ p ∈ b, @Ne Nat p.1 src) : ∀ p ∈ a ++ b, @Ne Nat p.1 src := fun p hp => by
  rcases List.mem_append.mp hp with hp | hp
  · exact (h _ (.head _) p hp).symm
  · exact hb p hp
theorem ne_one {news : List (Addr × Obj)} {D : Addr} {o : Obj} (h : ∀ p ∈ news, ∀ r ∈ [(D, o)], @Ne Nat p.1 r.1) : ∀ p ∈ news, @Ne Nat p.1 D := fun p hp => h p hp (D, o) (.head _)
local macro_rules | `(tactic| walk_at "my loop2") => `(tactic| ((rename Fr _ _ _ _ => lF'); (rename News _ _ _ _ => lN'); (with_unfolding_all refine' law_loop (Str.ofString "script") ?hxv ?hv ?hh ?hr ?hsm ?hn ?hn2 lF' lN' ?turn ?done); (case hxv => decide +kernel); (case hv => rfl); (case hh => rfl); (case hr => assumption); (case hsm => exact small_one (by omega) (by omega) (by omega) (by omega)); (case hn => exact rangeSize_nat _ _); (case hn2 => omega); (clear lF' lN'); (case' turn => (intro k t u h tk own hk0 hk1 F' N')); (case' done => (intro u h tk F' N')); (all_goals (try k_fold))))
theorem words42 : True := by
  k_with "my forget" => (first | (((fail_if_success (have : Forgot := by assumption)); (rename Fr _ _ _ _ => wlFzw); (refine forgetM wlFzw ?_); clear wlFzw; (intro whMarkzw whzw wtkzw wFzw wNzw); (try k_fold))) | fail "no")
  k_with "my own" => (first | ((intro wpw whpw; repeat (first | exact whpw | exact List.mem_append_right _ whpw | refine List.mem_cons_of_mem _ ?_))) | fail "no")
  k_with "my pool" => (first | ((k_here; (with_reducible show wpAny _ _ (call (Value.ref 502) _) _ _ _); k_dflt (refine use_new (law_pool_con _ _ _ _ _ _) ⟨(by k_asm), (by k_asm), (by k_asm), (by k_asm), (by k_asm), (by first | exact rfl | assumption), (by ktr_room), (by ktr_units)⟩ (by walk_at "my sub") ⟨(by kmk_list), (by assumption), (by omega), (by omega), (by omega)⟩ ?_; k_whole); (rintro wvzw wnewzw whzw wtkzw wFzw wNzw - whnezw ⟨wDzw, wazw, wtazw, wbzw, wtbzw, wnzw, we1w, we2w, whokzw⟩; subst we1w; subst we2w; (replace whnezw := ne_one whnezw); (try simp only [List.cons_append, List.nil_append] at wNzw)))) | fail "no")
  k_with "my path" => (first | ((k_here; (with_reducible show wpAny _ _ (call (Value.ref 549) _) _ _ _); k_dflt (refine use_upd (law_path_con _ _ _ _ _ _ _) ⟨(by k_asm), (by k_asm), (by k_asm), (by k_asm), (by k_asm), (by first | exact rfl | assumption), (by ktr_room), (by ktr_units)⟩ (by walk_at "my sub") (by exact UpdF.head (by assumption)) (by assumption) ?_; k_whole); (rintro wvzw wozw wnewzw whzw wtkzw wFzw wNzw - whnezw ⟨wDzw, wpazw, wwdzw, wtzw, wixzw, wledzw, wcovzw, wsubzw, we1w, we2w, whPzw, wazw, wtazw, wbzw, wtbzw, wnzw, whokzw, we3w⟩; subst we1w; subst we2w; subst we3w; (replace wNzw := news_front wNzw); (replace whnezw := ne_front whnezw (by assumption)); (simp only [List.cons_append] at wNzw whnezw)))) | fail "no")
  k_with "my right" => (first | ((k_here; (with_reducible show wpAny _ _ (call (Value.ref 542) _) _ _ _); k_dflt (refine use_upd (law_right_con _ _ _ _ _ _ _) ⟨(by k_asm), (by k_asm), (by k_asm), (by k_asm), (by k_asm), (by first | exact rfl | assumption), (by ktr_room), (by ktr_units)⟩ (by walk_at "my sub") (by exact UpdF.head (by assumption)) (by assumption) ?_; k_whole); (rintro wvzw wozw wnewzw whzw wtkzw wFzw wNzw - - ⟨we1w, we2w, wazw, wtazw, wbzw, wtbzw, wnzw, whokzw, we3w⟩; subst we1w; subst we2w; subst we3w; (try simp only [List.nil_append] at wNzw)))) | fail "no")
  trivial
local macro_rules | `(tactic| walk_at "eval ListComp") => `(tactic| k_extra "P80 eval ListComp")
local macro_rules | `(tactic| walk_at "CompSrcT") => `(tactic| (k_here; k_dflt (walk_at "my rows comp")))
local macro_rules | `(tactic| walk_at "exec Assign") => `(tactic| k_extra "P80 exec Assign")
local macro_rules | `(tactic| walk_at "call ref") => `(tactic| k_extra "P80 call ref")
local macro_rules | `(tactic| walk_at "call ref") => `(tactic| (walk_at "my walk135"))
local macro_rules | `(tactic| walk_at "call ref") => `(tactic| (walk_at "my pool"))
local macro_rules | `(tactic| walk_at "call ref") => `(tactic| (walk_at "my path"))
local macro_rules | `(tactic| walk_at "call ref") => `(tactic| (walk_at "my right"))
local macro_rules | `(tactic| k_qdec) => `(tactic| first | exact namesO | decide +kernel)
theorem words43 : True := by
  k_with "P80 eval ListComp" => (first | ((k_here; k_dflt (refine LCt.ListComp_T (F₀ := by k_asm) (by with_unfolding_all rfl) (by decide) (by rfl) (by decide) (by rfl) ?_))) | fail "no")
  k_with "P80 exec Assign" => (first | ((k_here; (with_reducible show wpAny _ _ (exec (Stmt.Assign [Expr.Name (Str.ofString "covering") _] _ _) _) _ _ _); (walk_at "my forget"))) | fail "no")
  k_with "P80 call ref" => (first | ((k_here; (with_reducible show wpAny _ _ (call (Value.ref 556) _) _ _ _); k_dflt (walk_at "my hints"); (rintro wvzw wnewzw whzw wtkzw wFzw wNzw - - ⟨we1w, we2w⟩); subst we1w; subst we2w; (try simp only [List.nil_append] at wNzw))) | fail "no")
  trivial
set_option maxHeartbeats 8000000 in
theorem fin : PySem.Challenge.rw_xw0238_01.Holds := by
  w_on
  refine holds_law wellO fun said => ?_
  refine holds_open (q := V) (loose := looseN) (Xt := fun s => xlAt V [] s && recOk (RowW.records (OpenRow.toRowW (OpenLaw.row PySem.Challenge.rw_xw0238_01))) s) (XP := XL V []) (Yf := Hook.obs HK) (Ya := Hook.val HK) (YP := Hook.says HK) (N := 60000) leftO (Hook.of HK) (Hook.keeps HK) (fun s e => xl_of s (Bool.and_eq_true_iff.mp e).1) XL.keeps (by rfl) (by rfl) (by rfl) (fun s e => recFacts_of (Bool.and_eq_true_iff.mp e).2) (by rfl) (by assumption) okO ⟨rfl, rfl, rfl, rfl, rfl, tabO⟩ ?hw ?hc
  case hw => w_witness2
  case hc =>
    (rename _ = true => sd); clear sd
    k_go0
    all_goals try k_fold
    k_with "my loop" => walk_at "my loop2"
    k_steps
    all_goals first
      | exact law_end (by assumption) rfl (by assumption) (by walk_at "my own")
      | exact row_end (by first | rfl | simp) (by assumption) (by assumption) (List.forall_mem_cons.mpr ⟨by k_mem, List.forall_mem_cons.mpr ⟨by k_mem, List.forall_mem_cons.mpr ⟨by k_mem, by walk_at "my all"⟩⟩⟩) (by assumption) (.inr ⟨_, by k_mem, rfl, _, rfl⟩)
    k_with_none
theorem words44 : True := by
  k_with "my lt" => (first | (with_reducible first | exact And.left (by assumption) | exact (by assumption) | exact And.left (And.right (by assumption)) | exact (And.right (by assumption)) | exact And.left (And.right (And.right (by assumption))) | exact (And.right (And.right (by assumption))) | exact And.left (And.right (And.right (And.right (by assumption)))) | exact (And.right (And.right (And.right (by assumption)))) | exact And.left (And.right (And.right (And.right (And.right (by assumption))))) | exact (And.right (And.right (And.right (And.right (by assumption))))) | exact And.left (And.right (And.right (And.right (And.right (And.right (by assumption)))))) | exact (And.right (And.right (And.right (And.right (And.right (by assumption)))))) | exact And.left (And.right (And.right (And.right (And.right (And.right (And.right (by assumption))))))) | exact (And.right (And.right (And.right (And.right (And.right (And.right (by assumption))))))) | exact And.left (And.right (And.right (And.right (And.right (And.right (And.right (And.right (by assumption)))))))) | exact (And.right (And.right (And.right (And.right (And.right (And.right (And.right (by assumption)))))))) | exact And.left (And.right (And.right (And.right (And.right (And.right (And.right (And.right (And.right (by assumption))))))))) | exact (And.right (And.right (And.right (And.right (And.right (And.right (And.right (And.right (by assumption))))))))) | exact And.left (And.right (And.right (And.right (And.right (And.right (And.right (And.right (And.right (And.right (by assumption)))))))))) | exact (And.right (And.right (And.right (And.right (And.right (And.right (And.right (And.right (And.right (by assumption)))))))))) | exact And.left (And.right (And.right (And.right (And.right (And.right (And.right (And.right (And.right (And.right (And.right (by assumption))))))))))) | exact (And.right (And.right (And.right (And.right (And.right (And.right (And.right (And.right (And.right (And.right (by assumption))))))))))) | exact And.left (And.right (And.right (And.right (And.right (And.right (And.right (And.right (And.right (And.right (And.right (And.right (by assumption)))))))))))) | exact (And.right (And.right (And.right (And.right (And.right (And.right (And.right (And.right (And.right (And.right (And.right (by assumption)))))))))))) | exact And.left (And.right (And.right (And.right (And.right (And.right (And.right (And.right (And.right (And.right (And.right (And.right (And.right (by assumption))))))))))))) | exact (And.right (And.right (And.right (And.right (And.right (And.right (And.right (And.right (And.right (And.right (And.right (And.right (by assumption))))))))))))) | exact And.left (And.right (And.right (And.right (And.right (And.right (And.right (And.right (And.right (And.right (And.right (And.right (And.right (And.right (by assumption)))))))))))))) | exact (And.right (And.right (And.right (And.right (And.right (And.right (And.right (And.right (And.right (And.right (And.right (And.right (And.right (by assumption)))))))))))))) | exact And.left (And.right (And.right (And.right (And.right (And.right (And.right (And.right (And.right (And.right (And.right (And.right (And.right (And.right (And.right (by assumption))))))))))))))) | exact (And.right (And.right (And.right (And.right (And.right (And.right (And.right (And.right (And.right (And.right (And.right (And.right (And.right (And.right (by assumption))))))))))))))) | exact And.left (And.right (And.right (And.right (And.right (And.right (And.right (And.right (And.right (And.right (And.right (And.right (And.right (And.right (And.right (And.right (by assumption)))))))))))))))) | exact (And.right (And.right (And.right (And.right (And.right (And.right (And.right (And.right (And.right (And.right (And.right (And.right (And.right (And.right (And.right (by assumption)))))))))))))))) | exact And.left (And.right (And.right (And.right (And.right (And.right (And.right (And.right (And.right (And.right (And.right (And.right (And.right (And.right (And.right (And.right (And.right (by assumption))))))))))))))))) | exact (And.right (And.right (And.right (And.right (And.right (And.right (And.right (And.right (And.right (And.right (And.right (And.right (And.right (And.right (And.right (And.right (by assumption))))))))))))))))) | exact And.left (And.right (And.right (And.right (And.right (And.right (And.right (And.right (And.right (And.right (And.right (And.right (And.right (And.right (And.right (And.right (And.right (And.right (by assumption)))))))))))))))))) | exact (And.right (And.right (And.right (And.right (And.right (And.right (And.right (And.right (And.right (And.right (And.right (And.right (And.right (And.right (And.right (And.right (And.right (by assumption)))))))))))))))))) | exact And.left (And.right (And.right (And.right (And.right (And.right (And.right (And.right (And.right (And.right (And.right (And.right (And.right (And.right (And.right (And.right (And.right (And.right (And.right (by assumption))))))))))))))))))) | exact (And.right (And.right (And.right (And.right (And.right (And.right (And.right (And.right (And.right (And.right (And.right (And.right (And.right (And.right (And.right (And.right (And.right (And.right (by assumption))))))))))))))))))) | exact And.left (And.right (And.right (And.right (And.right (And.right (And.right (And.right (And.right (And.right (And.right (And.right (And.right (And.right (And.right (And.right (And.right (And.right (And.right (And.right (by assumption)))))))))))))))))))) | exact (And.right (And.right (And.right (And.right (And.right (And.right (And.right (And.right (And.right (And.right (And.right (And.right (And.right (And.right (And.right (And.right (And.right (And.right (And.right (by assumption)))))))))))))))))))) | exact And.left (And.right (And.right (And.right (And.right (And.right (And.right (And.right (And.right (And.right (And.right (And.right (And.right (And.right (And.right (And.right (And.right (And.right (And.right (And.right (And.right (by assumption))))))))))))))))))))) | exact And.left (And.right (And.right (And.right (And.right (And.right (And.right (And.right (And.right (And.right (And.right (And.right (And.right (And.right (And.right (And.right (And.right (And.right (And.right (And.right (And.right (And.right (by assumption)))))))))))))))))))))) | exact And.left (And.right (And.right (And.right (And.right (And.right (And.right (And.right (And.right (And.right (And.right (And.right (And.right (And.right (And.right (And.right (And.right (And.right (And.right (And.right (And.right (And.right (And.right (by assumption))))))))))))))))))))))) | exact And.left (And.right (And.right (And.right (And.right (And.right (And.right (And.right (And.right (And.right (And.right (And.right (And.right (And.right (And.right (And.right (And.right (And.right (And.right (And.right (And.right (And.right (And.right (And.right (by assumption)))))))))))))))))))))))) | exact And.left (And.right (And.right (And.right (And.right (And.right (And.right (And.right (And.right (And.right (And.right (And.right (And.right (And.right (And.right (And.right (And.right (And.right (And.right (And.right (And.right (And.right (And.right (And.right (And.right (by assumption))))))))))))))))))))))))) | exact And.left (And.right (And.right (And.right (And.right (And.right (And.right (And.right (And.right (And.right (And.right (And.right (And.right (And.right (And.right (And.right (And.right (And.right (And.right (And.right (And.right (And.right (And.right (And.right (And.right (And.right (by assumption)))))))))))))))))))))))))) | exact And.left (And.right (And.right (And.right (And.right (And.right (And.right (And.right (And.right (And.right (And.right (And.right (And.right (And.right (And.right (And.right (And.right (And.right (And.right (And.right (And.right (And.right (And.right (And.right (And.right (And.right (And.right (by assumption))))))))))))))))))))))))))) | exact And.left (And.right (And.right (And.right (And.right (And.right (And.right (And.right (And.right (And.right (And.right (And.right (And.right (And.right (And.right (And.right (And.right (And.right (And.right (And.right (And.right (And.right (And.right (And.right (And.right (And.right (And.right (And.right (by assumption)))))))))))))))))))))))))))) | exact And.left (And.right (And.right (And.right (And.right (And.right (And.right (And.right (And.right (And.right (And.right (And.right (And.right (And.right (And.right (And.right (And.right (And.right (And.right (And.right (And.right (And.right (And.right (And.right (And.right (And.right (And.right (And.right (And.right (by assumption))))))))))))))))))))))))))))) | exact And.left (And.right (And.right (And.right (And.right (And.right (And.right (And.right (And.right (And.right (And.right (And.right (And.right (And.right (And.right (And.right (And.right (And.right (And.right (And.right (And.right (And.right (And.right (And.right (And.right (And.right (And.right (And.right (And.right (And.right (by assumption))))))))))))))))))))))))))))))) | fail "no")
  k_with "my k_ne" => (first | ((refine neN ?_; (try dsimp only); first | (refine Nat.ne_of_lt ?_; walk_at "my lt") | (refine Nat.ne_of_gt ?_; walk_at "my lt") | walk_at "my lt" | (refine Ne.symm ?_; walk_at "my lt") | omega)) | fail "no")
  k_with "my binds" => (first | (first | exact BindsTo.of_eq (binds := [(_, _)]) rfl | exact BindsTo.of_eq (binds := [(_, _), (_, _)]) rfl | exact BindsTo.of_eq (binds := [(_, _), (_, _), (_, _)]) rfl | exact BindsTo.of_eq (binds := [(_, _), (_, _), (_, _), (_, _)]) rfl | exact BindsTo.of_eq rfl) | fail "no")
  k_with "my call ref" => (first | ((k_here; k_dflt (refine call_cls (by k_asm) (by k_asm) (by k_asm) (by k_is) (by k_is) (by k_is) ?_; k_whole; intro wxzw wdzw whzw wFzw wNzw wl1w wl2w; (try k_lt wl1w); (try k_lt2 wl2w); (try k_sweep)); k_dflt (walk_at "my nest"))) | fail "no")
  k_with "my sub" => (first | (repeat (first | exact List.forall_mem_nil _ | refine List.forall_mem_cons.mpr ⟨by k_mem, ?_⟩)) | fail "no")
  k_with "my call ref" => (first | ((k_here; (with_reducible show wpAny _ _ (call (Value.ref 509) _) _ _ _); k_dflt (refine use_upd (take_con _ _ _ _ _ _ _ _ _) ⟨(by k_asm), (by k_asm), (by k_asm), (by k_asm), (by k_asm), (by first | exact rfl | assumption), (by ktr_room), (by ktr_units)⟩ (by walk_at "my sub") (by k_updF) ⟨(by assumption), (by decide), (by decide)⟩ ?_; k_whole); (rintro wvzw wozw wnewzw whzw wtkzw wFzw wNzw - - ⟨we1w, wdzw, wtzw, wazw, wtazw, wbzw, wtbzw, wnzw, we2w, whd0w, whd1w, whsrcw, we3w⟩); subst we1w; subst we2w; subst we3w; (try simp only [List.nil_append] at wNzw); (try k_sweep))) | fail "no")
  k_with "my rows" => (first | (exact RowsAt.keep (by assumption) (Fr.keep (by k_asm))) | fail "no")
  k_with "my call builtin:len" => (first | ((k_here; (with_reducible show wpAny _ _ (call (Value.builtin "len") [Value.ref _]) _ _ _); k_dflt (refine rows_len (by k_asm) (by k_mem) (by assumption) (by omega) ?_; k_whole; intro wtzw wtkzw))) | fail "no")
  k_with "my arith" => (first | (first | omega | ((simp (disch := omega) only [Int.fdiv_eq_ediv_of_nonneg, Int.fmod_eq_emod_of_nonneg]); omega)) | fail "no")
  k_with "my call ref" => (first | ((k_here; (with_reducible show wpAny _ _ (call (Value.ref 178) _) _ _ _); k_dflt (refine use_new (place_con _ _ _ _ _ _ _ _ _ _ _ _ _ _) ⟨(by k_asm), (by k_asm), (by k_asm), (by k_asm), (by k_asm), (by first | exact rfl | assumption), (by ktr_room), (by ktr_units)⟩ (by walk_at "my sub") ⟨(by walk_at "my rows"), (by assumption), (by assumption)⟩ ?_; k_whole); (rintro wvzw wnewzw whzw wtkzw wFzw wNzw - - ⟨we1w, wtzw, we2w⟩); subst we1w; subst we2w; (try simp only [List.nil_append] at wNzw); (try k_sweep))) | fail "no")
  k_with "my call ref" => (first | ((k_here; (with_reducible show wpAny _ _ (call (Value.ref 262) _) _ _ _); k_dflt (refine use_new (valid_con _ _ _ _ _ _ _ _ _ _ _ _) ⟨(by k_asm), (by k_asm), (by k_asm), (by k_asm), (by k_asm), (by first | exact rfl | assumption), (by ktr_room), (by ktr_units)⟩ (by walk_at "my sub") ⟨(by walk_at "my rows"), (by assumption)⟩ ?_; k_whole); (rintro wvzw wnewzw whzw wtkzw wFzw wNzw - - ⟨we1w, we2w⟩); subst we1w; subst we2w; (try simp only [List.nil_append] at wNzw); (try k_sweep))) | fail "no")
  k_with "my tab post" => (first | (((rintro wvzw wozw wnewzw whzw wtkzw wFzw wNzw - - ⟨we1w, we2w, wtpzw, we3w⟩); subst we1w; subst we2w; subst we3w; (try simp only [List.nil_append] at wNzw); (try k_sweep))) | fail "no")
  k_with "my call ref" => (first | ((k_here; (with_reducible show wpAny _ _ (call (Value.ref 192) _) _ _ _); k_dflt (refine use_upd (stand_con _ _ _ _ _ _ _ _ _ _ _ _ _ _) ⟨(by k_asm), (by k_asm), (by k_asm), (by k_asm), (by k_asm), (by first | exact rfl | assumption), (by ktr_room), (by ktr_units)⟩ (by walk_at "my sub") (by k_updF) ⟨(by walk_at "my rows"), (by assumption)⟩ ?_; k_whole); walk_at "my tab post")) | fail "no")
  k_with "my call ref" => (first | ((k_here; (with_reducible show wpAny _ _ (call (Value.ref 234) _) _ _ _); k_dflt (refine use_upd (seek_ge_con _ _ _ _ _ _ _ _ _ _ _ _ _ _) ⟨(by k_asm), (by k_asm), (by k_asm), (by k_asm), (by k_asm), (by first | exact rfl | assumption), (by ktr_room), (by ktr_units)⟩ (by walk_at "my sub") (by k_updF) ⟨(by walk_at "my rows"), (by assumption), (by assumption)⟩ ?_; k_whole); walk_at "my tab post")) | fail "no")
  k_with "my call ref" => (first | ((k_here; (with_reducible show wpAny _ _ (call (Value.ref 241) _) _ _ _); k_dflt (refine use_upd (seek_gt_con _ _ _ _ _ _ _ _ _ _ _ _ _ _) ⟨(by k_asm), (by k_asm), (by k_asm), (by k_asm), (by k_asm), (by first | exact rfl | assumption), (by ktr_room), (by ktr_units)⟩ (by walk_at "my sub") (by k_updF) ⟨(by walk_at "my rows"), (by assumption), (by assumption)⟩ ?_; k_whole); walk_at "my tab post")) | fail "no")
  k_with "my call ref" => (first | ((k_here; (with_reducible show wpAny _ _ (call (Value.ref 248) _) _ _ _); k_dflt (refine use_upd (seek_le_con _ _ _ _ _ _ _ _ _ _ _ _ _ _) ⟨(by k_asm), (by k_asm), (by k_asm), (by k_asm), (by k_asm), (by first | exact rfl | assumption), (by ktr_room), (by ktr_units)⟩ (by walk_at "my sub") (by k_updF) ⟨(by walk_at "my rows"), (by assumption), (by assumption)⟩ ?_; k_whole); walk_at "my tab post")) | fail "no")
  k_with "my call ref" => (first | ((k_here; (with_reducible show wpAny _ _ (call (Value.ref 255) _) _ _ _); k_dflt (refine use_upd (seek_lt_con _ _ _ _ _ _ _ _ _ _ _ _ _ _) ⟨(by k_asm), (by k_asm), (by k_asm), (by k_asm), (by k_asm), (by first | exact rfl | assumption), (by ktr_room), (by ktr_units)⟩ (by walk_at "my sub") (by k_updF) ⟨(by walk_at "my rows"), (by assumption), (by assumption)⟩ ?_; k_whole); walk_at "my tab post")) | fail "no")
  k_with "my tab post2" => (first | (((rintro wvzw wozw wnewzw whzw wtkzw wFzw wNzw - - ⟨we1w, wpzw, whpzw, we2w, wtpzw, we3w⟩); subst we1w; subst we2w; subst we3w; (try simp only [List.nil_append] at wNzw); (try k_sweep))) | fail "no")
  k_with "my call ref" => (first | ((k_here; (with_reducible show wpAny _ _ (call (Value.ref 213) _) _ _ _); k_dflt (refine use_upd (next_con _ _ _ _ _ _ _ _ _ _ _ _) ⟨(by k_asm), (by k_asm), (by k_asm), (by k_asm), (by k_asm), (by first | exact rfl | assumption), (by ktr_room), (by ktr_units)⟩ (by walk_at "my sub") (by k_updF) ⟨(by walk_at "my rows"), (by assumption)⟩ ?_; k_whole); walk_at "my tab post2")) | fail "no")
  k_with "my tab post2" => (first | (((rintro wvzw wozw wnewzw whzw wtkzw wFzw wNzw - - ⟨we1w, wpzw, whpzw, we2w, wtpzw, we3w⟩); subst we1w; subst we2w; subst we3w; (try simp only [List.nil_append] at wNzw); (try k_sweep))) | fail "no")
  k_with "my call ref" => (first | ((k_here; (with_reducible show wpAny _ _ (call (Value.ref 220) _) _ _ _); k_dflt (refine use_upd (prev_con _ _ _ _ _ _ _ _ _ _ _ _) ⟨(by k_asm), (by k_asm), (by k_asm), (by k_asm), (by k_asm), (by first | exact rfl | assumption), (by ktr_room), (by ktr_units)⟩ (by walk_at "my sub") (by k_updF) ⟨(by walk_at "my rows"), (by assumption)⟩ ?_; k_whole); walk_at "my tab post2")) | fail "no")
  k_with "my call ref" => (first | ((k_here; (with_reducible show wpAny _ _ (call (Value.ref 269) _) _ _ _); k_dflt (refine use_new (ask_con _ _ _ _ _ _ _ _ _ _ _ _) ⟨(by k_asm), (by k_asm), (by k_asm), (by k_asm), (by k_asm), (by first | exact rfl | assumption), (by ktr_room), (by ktr_units)⟩ (by walk_at "my sub") ⟨(by walk_at "my rows"), (by assumption), (by omega), (by omega)⟩ ?_; k_whole); (rintro wvzw wnewzw whzw wtkzw wFzw wNzw - - ⟨we1w, we2w⟩); subst we1w; subst we2w; (try simp only [List.nil_append] at wNzw); (try k_sweep))) | fail "no")
  k_with "my call ref" => (first | ((k_here; (with_reducible show wpAny _ _ (call (Value.ref 276) _) _ _ _); k_dflt (refine use_new (rowid_con _ _ _ _ _ _ _ _ _ _ _ _) ⟨(by k_asm), (by k_asm), (by k_asm), (by k_asm), (by k_asm), (by first | exact rfl | assumption), (by ktr_room), (by ktr_units)⟩ (by walk_at "my sub") ⟨(by walk_at "my rows"), (by assumption), (by omega), (by omega)⟩ ?_; k_whole); (rintro wvzw wnewzw whzw wtkzw wFzw wNzw - - ⟨we1w, wtzw, we2w⟩); subst we1w; subst we2w; (try simp only [List.nil_append] at wNzw); (try k_sweep))) | fail "no")
  k_with "my call builtin:list.insert" => (first | ((k_here; (with_reducible show wpAny _ _ (call (Value.builtin _) [Value.ref _, Value.int _ _, _]) _ _ _); k_dflt (refine rows_ins (by k_asm) (by k_asm) (by k_upd) (by omega) (by omega) ?_; k_whole; intro whzw wFzw wNzw; (try k_sweep)))) | fail "no")
  k_with "my call ref" => (first | ((k_here; (with_reducible show wpAny _ _ (call (Value.ref 171) _) _ _ _); k_dflt (refine use_upd (insert_con _ _ _ _ _ _ _ _ _ _ _ _ _ _) ⟨(by k_asm), (by k_asm), (by k_asm), (by k_asm), (by k_asm), (by first | exact rfl | assumption), (by ktr_room), (by ktr_units)⟩ (by walk_at "my sub") (by k_updF) ⟨(by walk_at "my rows"), (by assumption), (by assumption), (by assumption)⟩ ?_; k_whole); (rintro wvzw wozw wnewzw whzw wtkzw wFzw wNzw - whneww ⟨we1w, wtazw, wttzw, wnnzw, wnzw, we2w, we3w⟩); subst we1w; subst we2w; subst we3w; (try simp only [List.nil_append, List.cons_append] at wNzw); (try k_sweep))) | fail "no")
  k_with "my call ref" => (first | ((k_here; (with_reducible show wpAny _ _ (call (Value.ref 28) _) _ _ _); k_dflt (refine use_new (seek_word_con _ _ _) ⟨(by k_asm), (by k_asm), (by k_asm), (by k_asm), (by k_asm), (by first | exact rfl | assumption), (by ktr_room), (by ktr_units)⟩ (by walk_at "my sub") (by trivial) ?_; k_whole); (rintro wvzw wnewzw whzw wtkzw wFzw wNzw - - ⟨we1w, wtzw, we2w⟩); subst we1w; subst we2w; (try simp only [List.nil_append] at wNzw); (try k_sweep))) | fail "no")
  k_with "my call ref" => (first | ((k_here; (with_reducible show wpAny _ _ (call (Value.ref 35) _) _ _ _); k_dflt (refine use_new (past_word_con _ _ _) ⟨(by k_asm), (by k_asm), (by k_asm), (by k_asm), (by k_asm), (by first | exact rfl | assumption), (by ktr_room), (by ktr_units)⟩ (by walk_at "my sub") (by trivial) ?_; k_whole); (rintro wvzw wnewzw whzw wtkzw wFzw wNzw - - ⟨we1w, wtzw, we2w⟩); subst we1w; subst we2w; (try simp only [List.nil_append] at wNzw); (try k_sweep))) | fail "no")
  k_with "my call ref" => (first | ((k_here; (with_reducible show wpAny _ _ (call (Value.ref 530) _) _ _ _); k_dflt (refine use_new (is_past_con _ _ _ _ _ _ _ _) ⟨(by k_asm), (by k_asm), (by k_asm), (by k_asm), (by k_asm), (by first | exact rfl | assumption), (by ktr_room), (by ktr_units)⟩ (by walk_at "my sub") (by trivial) ?_; k_whole); (rintro wvzw wnewzw whzw wtkzw wFzw wNzw - - ⟨we1w, we2w⟩); subst we1w; subst we2w; (try simp only [List.nil_append] at wNzw); (try k_sweep))) | fail "no")
  k_with "my call ref" => (first | ((k_here; (with_reducible show wpAny _ _ (call (Value.ref 523) _) _ _ _); k_dflt (refine use_upd (law_stand_con _ _ _ _ _ _ _ _ _ _ _ _ _ _ _ _ _) ⟨(by k_asm), (by k_asm), (by k_asm), (by k_asm), (by k_asm), (by first | exact rfl | assumption), (by ktr_room), (by ktr_units)⟩ (by walk_at "my sub") (by k_updF) ⟨(by walk_at "my rows"), (by assumption), (by assumption)⟩ ?_; k_whole); walk_at "my tab post")) | fail "no")
  k_with "my call builtin:list.append" => (first | ((k_here; (with_reducible show wpAny _ _ (call (Value.builtin _) [Value.ref _, Value.int _ _]) _ _ _); k_dflt (refine app_ints (by k_asm) (by k_asm) (by k_upd) (by assumption) ?_; k_whole); intro whzw wFzw wNzw; (try k_sweep))) | fail "no")
  k_with "my tail" => (first | ((intro wpw whpw; repeat (first | exact whpw | exact List.mem_append_left _ whpw | refine List.mem_cons_of_mem _ ?_))) | fail "no")
  k_with "my rows" => (first | (exact RowsIn.at (by assumption) (by k_asm) (by walk_at "my tail")) | fail "no")
  k_with "my sub2" => (first | (((repeat (refine List.forall_mem_cons.mpr ⟨by k_mem, ?_⟩)); walk_at "my tail")) | fail "no")
  k_with "my call type:set cons nil" => (first | ((k_here; (with_reducible show wpAny _ _ (call (Value.type "set") [Value.ref _]) _ _ _); k_dflt (refine set_list_N (by k_asm) (by k_asm) (by exact rfl) (by exact News.isList (by k_asm) (by k_mem)) (by assumption) (by omega) (by assumption) ?_; k_whole); intro wazw wozw whzw wtkzw wFzw wNzw wl1w whOw; (try k_lt wl1w); (try k_sweep))) | fail "no")
  k_with "my call builtin:sorted" => (first | ((k_here; (with_reducible show wpAny _ _ (call (Value.builtin "sorted") [Value.ref _]) _ _ _); k_dflt (refine sorted_set_N (by exact rfl) (by k_asm) (by k_asm) (by k_mem) (by assumption) (by omega) ?_; k_whole); intro wDzw wvzw wnzw wxzw whzw wtkzw wFzw wNzw wl1w whIw whIncw whLenw; (try k_lt wl1w); (try k_sweep))) | fail "no")
  k_with "my call ref" => (first | ((k_here; (with_reducible show wpAny _ _ (call (Value.ref 537) _) _ _ _); k_dflt (refine use_new (law_walk_con _ _ _ _ _ _ _ _ _ _ _ _ _ _ _) ⟨(by k_asm), (by k_asm), (by k_asm), (by k_asm), (by k_asm), (by first | exact rfl | assumption), (by ktr_room), (by ktr_units)⟩ (by walk_at "my sub") ⟨(by exact News.isList (by k_asm) (by k_mem)), (by assumption), (by assumption), (by omega), (by exact News.at_ (by k_asm) (by k_mem)), (by exact News.at_ (by k_asm) (by k_mem))⟩ ?_; k_whole); (rintro wvzw wnewzw whzw wtkzw wFzw wNzw - - ⟨wDzw, wuszw, wnzw, we1w, we2w, whWw⟩; subst we1w; subst we2w; (replace whWw := due_walked (by assumption) whWw); (simp only [if_true, if_false, Bool.false_eq_true] at whWw); (try simp only [List.cons_append, List.nil_append] at wNzw); (try k_sweep)))) | fail "no")
  k_with "my due" => (first | (first
  | exact due_no (by assumption) (fun z h1 h2 => by simp only [if_neg h1, if_neg h2]) (by assumption) (by assumption) (Bool.eq_false_iff.mpr (by simp only [dueP, ne_eq, Bool.and_eq_true, Bool.or_eq_true, decide_eq_true_eq, beq_iff_eq]; omega))
  | exact due_yes (by assumption) (fun z h1 h2 => by simp only [if_neg h1, if_neg h2]) (by assumption) (by assumption) (by simp only [dueP, Bool.and_eq_true, Bool.or_eq_true, decide_eq_true_eq, beq_iff_eq]; omega)) | fail "no")
  k_with "my call ref" => (first | ((k_here; (with_reducible show wpAny _ _ (call (Value.ref 542) _) _ _ _); k_dflt (refine use_upd (law_right_con _ _ _ _ _ _ _) ⟨(by k_asm), (by k_asm), (by k_asm), (by k_asm), (by k_asm), (by first | exact rfl | assumption), (by ktr_room), (by ktr_units)⟩ (by walk_at "my sub") (by k_updF) (by assumption) ?_; k_whole); (rintro wvzw wozw wnewzw whzw wtkzw wFzw wNzw - - ⟨we1w, we2w, wazw, wtazw, wbzw, wtbzw, wnzw, whokzw, we3w⟩; subst we1w; subst we2w; subst we3w; (try simp only [List.nil_append] at wNzw); (try k_sweep)))) | fail "no")
  k_with "my nest" => (first | (((with_reducible show codeAny _ _ (Code.call (Value.ref 383) _) _ _); (refine use_init ⟨(by k_asm), (by k_asm), (by k_asm), (by k_asm), (by k_asm), (by first | exact rfl | assumption), (by (simp only [w_call, depth_deeper, depth_caller]; first | omega | decide)), (by (simp only [u_call, units_deeper, units_caller]; first | omega | decide | (rw [cLine_is]; omega)))⟩ (by k_mem) (by k_updF) (by first | assumption | omega) (by first | exact BindsTo.of_eq rfl | exact binds_K (by k_in) rfl (by k_is) rfl rfl rfl) ?_); k_whole; (intro wt0w wt1w wt2w wt3w wt4w wt5w wt6w wt7w wt8w wt9w wt10w wt11w wt12w wt13w wt14w wE1w wE2w wrww wcow whzw wtkzw wFzw wNzw whnew whEw; (simp only [List.forall_mem_cons, List.not_mem_nil, false_implies, implies_true, and_true, and_assoc] at whnew); (refine ⟨rfl, ?_⟩); (try dsimp only); (try k_fold)))) | fail "no")
  k_with "my nest" => (first | (((with_reducible show codeAny _ _ (Code.call (Value.ref 453) _) _ _); (refine use_index ⟨(by k_asm), (by k_asm), (by k_asm), (by k_asm), (by k_asm), (by first | exact rfl | assumption), (by (simp only [w_call, depth_deeper, depth_caller]; first | omega | decide)), (by (simp only [u_call, units_deeper, units_caller]; first | omega | decide | (rw [cLine_is]; omega)))⟩ (by k_mem) (by k_updF) (by first | assumption | omega) (by exact BindsTo.of_eq rfl) ?_); k_whole; (intro wu0w wu1w wu2w wu3w wu4w wu5w wu6w whzw wtkzw wFzw wNzw; (refine ⟨rfl, ?_⟩); (try dsimp only); (try k_fold)))) | fail "no")
  k_with "my call ref" => (first | ((k_here; (with_reducible show wpAny _ _ (call (Value.ref 425) _) _ _ _); k_dflt (refine use_new (nip_con _ _ _ _ _) ⟨(by k_asm), (by k_asm), (by k_asm), (by k_asm), (by k_asm), (by first | exact rfl | assumption), (by ktr_room), (by ktr_units)⟩ (by walk_at "my sub") trivial ?_; k_whole); (rintro wvzw wnewzw whzw wtkzw wFzw wNzw - whnew ⟨wpazw, wdxzw, wt0w, wt1w, wt2w, wt3w, wt4w, wt5w, wt6w, wt7w, wt8w, wt9w, wt10w, wt11w, wt12w, wt13w, wt14w, wtkw, wE1w, wE2w, wrww, wcow, wn1w, wn2w, we1w, we2w, whow⟩; subst we1w; subst we2w; (simp only [List.forall_mem_cons, List.not_mem_nil, false_implies, implies_true, and_true, and_assoc] at whnew); (try simp only [List.cons_append, List.nil_append] at wNzw); (try k_sweep)))) | fail "no")
  k_with "my call ref" => (first | ((k_here; (with_reducible show wpAny _ _ (call (Value.ref 502) _) _ _ _); k_dflt (refine use_new (law_pool_con _ _ _ _ _ _) ⟨(by k_asm), (by k_asm), (by k_asm), (by k_asm), (by k_asm), (by first | exact rfl | assumption), (by ktr_room), (by ktr_units)⟩ (by walk_at "my sub") ⟨(by kmk_list), (by assumption), (by omega), (by omega), (by omega)⟩ ?_; k_whole); (rintro wvzw wnewzw whzw wtkzw wFzw wNzw - - ⟨wDzw, wazw, wtazw, wbzw, wtbzw, wnzw, we1w, we2w, whokzw⟩; subst we1w; subst we2w; (try simp only [List.cons_append, List.nil_append] at wNzw); (try k_sweep)))) | fail "no")
  k_with "my call ref" => (first | ((k_here; (with_reducible show wpAny _ _ (call (Value.ref 516) _) _ _ _); k_dflt (refine use_upd (law_one_con _ _ _ _ _ _ _ _ _ _ _ _ _) ⟨(by k_asm), (by k_asm), (by k_asm), (by k_asm), (by k_asm), (by first | exact rfl | assumption), (by ktr_room), (by ktr_units)⟩ (by walk_at "my sub") (by k_updF) ⟨(by assumption), (by first | assumption | omega)⟩ ?_; k_whole); (rintro wvzw wozw wnewzw whzw wtkzw wFzw wNzw - - ⟨we1w, wnmzw, wtzw, wazw, wtazw, wbzw, wtbzw, wnzw, we2w, whnmw, whsrcw, we3w⟩); subst we1w; subst we2w; subst we3w; (try simp only [List.nil_append] at wNzw); (try k_sweep))) | fail "no")
  k_with "my subscriptTail" => (first | ((k_here; (with_reducible show wpAny _ _ (subscriptTail _ _ (Value.ref _) (Value.int _ _)) _ _ _); k_dflt (refine pick3 (by k_asm) (by k_mem) (by assumption) (by assumption) ?_ (by with_unfolding_all rfl); k_whole); intro wnmzw wtzw whkdzw)) | fail "no")
  k_with "my call builtin:str.lower" => (first | ((k_here; (with_reducible show wpAny _ _ (call (Value.builtin "str.lower") [Value.str _ _]) _ _ _); k_dflt (refine PySem.W.KXw.lower (Eq.refl _) (by exact low_fits (by assumption)) ?_; k_whole); intro wtzw wtkzw)) | fail "no")
  k_with "my fresh" => (first | (k_dflt (refine fresh1 ?_; repeat (first | exact List.forall_mem_nil _ | refine List.forall_mem_cons.mpr ⟨by (dsimp only; omega), ?_⟩))) | fail "no")
  k_with "my call ref" => (first | ((k_here; (with_reducible show wpAny _ _ (call (Value.ref 368) _) _ _ _); k_dflt (refine use_new (fold_con _ _ _) ⟨(by k_asm), (by k_asm), (by k_asm), (by k_asm), (by k_asm), (by first | exact rfl | assumption), (by ktr_room), (by ktr_units)⟩ (by walk_at "my sub") ⟨(by assumption), (by assumption)⟩ ?_; k_whole); (rintro wvzw wnewzw whzw wtkzw wFzw wNzw - - ⟨we1w, wtzw, we2w⟩); subst we1w; subst we2w; (try simp only [List.nil_append] at wNzw); (try k_sweep))) | fail "no")
  k_with "my all" => (first | ((intro wpw whpw; repeat (first | exact whpw | exact List.mem_append_left _ whpw | refine List.mem_cons_of_mem _ ?_))) | fail "no")
  k_with "my call ref" => (first | ((k_here; (with_reducible show wpAny _ _ (call (Value.ref 390) _) _ _ _); k_dflt (refine use_newP (is_led_con _ _ _ _ _ _ _) ⟨(by k_asm), (by k_asm), (by k_asm), (by k_asm), (by k_asm), (by first | exact rfl | assumption), (by ktr_room), (by ktr_units)⟩ (by assumption) (by walk_at "my all") ?_; k_whole); (rintro wvzw wnewzw whzw wtkzw wFzw wNzw - - ⟨we1w, we2w⟩); subst we1w; subst we2w; (try simp only [List.nil_append] at wNzw); (try k_sweep))) | fail "no")
  k_with "my call ref" => (first | ((k_here; (with_reducible show wpAny _ _ (call (Value.ref 432) _) _ _ _); k_dflt (refine use_newP (is_wanted_con _ _ _ _ _ _ _ _ _) ⟨(by k_asm), (by k_asm), (by k_asm), (by k_asm), (by k_asm), (by first | exact rfl | assumption), (by ktr_room), (by ktr_units)⟩ (by assumption) (by walk_at "my all") ?_; k_whole); (rintro wvzw wnewzw whzw wtkzw wFzw wNzw - - ⟨we1w, we2w⟩); subst we1w; subst we2w; (try simp only [List.nil_append] at wNzw); (try k_sweep))) | fail "no")
  k_with "my let" => (first | (first
  | (refine use_new (let_none_con _ _) ⟨(by k_asm), (by k_asm), (by k_asm), (by k_asm), (by k_asm), (by first | exact rfl | assumption), (by ktr_room), (by ktr_units)⟩ (by walk_at "my sub") trivial ?_; k_whole)
  | (refine use_newP (let_scan_con _ _ _ _ _ _ _ _ _ _) ⟨(by k_asm), (by k_asm), (by k_asm), (by k_asm), (by k_asm), (by first | exact rfl | assumption), (by ktr_room), (by ktr_units)⟩ (by assumption) (by refine List.forall_mem_cons.mpr ⟨(by k_mem), (by walk_at "my all")⟩) ?_; k_whole)
  | (refine use_newP (let_index_con _ _ _ _ _ _ _ _ _ _ _ _) ⟨(by k_asm), (by k_asm), (by k_asm), (by k_asm), (by k_asm), (by first | exact rfl | assumption), (by ktr_room), (by ktr_units)⟩ ⟨(by assumption), (by first | assumption | decide +kernel), (by first | assumption | decide +kernel)⟩ (by refine List.forall_mem_cons.mpr ⟨(by k_mem), (by walk_at "my all")⟩) ?_; k_whole)) | fail "no")
  k_with "my call ref" => (first | ((k_here; (with_reducible show wpAny _ _ (call (Value.ref 439) _) _ _ _); k_dflt (walk_at "my let"); (rintro wvzw wnewzw whzw wtkzw wFzw wNzw - - ⟨we1w, we2w⟩); subst we1w; subst we2w; (try simp only [List.nil_append] at wNzw); (try k_sweep))) | fail "no")
  k_with "my call ref" => (first | ((k_here; (with_reducible show wpAny _ _ (call (Value.ref 556) _) _ _ _); k_dflt (refine use_newP (hints_con _ _ _ _ _ _ _ _) ⟨(by k_asm), (by k_asm), (by k_asm), (by k_asm), (by k_asm), (by first | exact rfl | assumption), (by ktr_room), (by ktr_units)⟩ (by assumption) (by walk_at "my all") ?_; k_whole); (rintro wvzw wnewzw whzw wtkzw wFzw wNzw - - ⟨we1w, we2w⟩); subst we1w; subst we2w; (try simp only [List.nil_append] at wNzw); (try k_sweep))) | fail "no")
  k_with "my walk135" => (first | ((k_here; (with_reducible show wpAny _ _ (call (Value.ref 537) _) _ _ _); k_dflt (refine use_new (law_walk_con _ _ _ _ _ _ [1, 3, 5] _ _ _ _ _ _ _ _) ⟨(by k_asm), (by k_asm), (by k_asm), (by k_asm), (by k_asm), (by first | exact rfl | assumption), (by ktr_room), (by ktr_units)⟩ (by walk_at "my sub") ⟨(by exact News.isList (by k_asm) (by k_mem)), (by repeat constructor), (by exact inc135), (by decide), (by exact News.at_ (by k_asm) (by k_mem)), (by exact News.at_ (by k_asm) (by k_mem))⟩ ?_; k_whole); (rintro wvzw wnewzw whzw wtkzw wFzw wNzw - - ⟨wDzw, wuszw, wnzw, we1w, we2w, whWw⟩; subst we1w; subst we2w; (replace whWw := rows_walked whWw); (try simp only [List.cons_append, List.nil_append] at wNzw); (try k_sweep)))) | fail "no")
  k_with "my hints" => (first | ((k_here; (with_reducible show wpAny _ _ (call (Value.ref 556) _) _ _ _); first
  | (refine use_new (hints_con _ _ _ _ _ _ _ _) ⟨(by k_asm), (by k_asm), (by k_asm), (by k_asm), (by k_asm), (by first | exact rfl | assumption), (by ktr_room), (by ktr_units)⟩ (by walk_at "my sub") path_ab ?_; k_whole)
  | (refine use_new (hints_con _ _ _ _ _ _ _ _) ⟨(by k_asm), (by k_asm), (by k_asm), (by k_asm), (by k_asm), (by first | exact rfl | assumption), (by ktr_room), (by ktr_units)⟩ (by walk_at "my sub") path_scan ?_; k_whole)
  | (refine use_new (hints_con _ _ _ _ _ _ _ _) ⟨(by k_asm), (by k_asm), (by k_asm), (by k_asm), (by k_asm), (by first | exact rfl | assumption), (by ktr_room), (by ktr_units)⟩ (by walk_at "my all") (by assumption) ?_; k_whole))) | fail "no")
  k_with "my forget" => (first | (((fail_if_success (have : Forgot := by assumption)); (rename Fr _ _ _ _ => wlFzw); (refine forgetM wlFzw ?_); clear wlFzw; (intro whMarkzw whzw wtkzw wFzw wNzw); (try k_fold))) | fail "no")
  k_with "my own" => (first | ((intro wpw whpw; repeat (first | exact whpw | exact List.mem_append_right _ whpw | refine List.mem_cons_of_mem _ ?_))) | fail "no")
  k_with "my pool" => (first | ((k_here; (with_reducible show wpAny _ _ (call (Value.ref 502) _) _ _ _); k_dflt (refine use_new (law_pool_con _ _ _ _ _ _) ⟨(by k_asm), (by k_asm), (by k_asm), (by k_asm), (by k_asm), (by first | exact rfl | assumption), (by ktr_room), (by ktr_units)⟩ (by walk_at "my sub") ⟨(by kmk_list), (by assumption), (by omega), (by omega), (by omega)⟩ ?_; k_whole); (rintro wvzw wnewzw whzw wtkzw wFzw wNzw - whnezw ⟨wDzw, wazw, wtazw, wbzw, wtbzw, wnzw, we1w, we2w, whokzw⟩; subst we1w; subst we2w; (replace whnezw := ne_one whnezw); (try simp only [List.cons_append, List.nil_append] at wNzw)))) | fail "no")
  k_with "my path" => (first | ((k_here; (with_reducible show wpAny _ _ (call (Value.ref 549) _) _ _ _); k_dflt (refine use_upd (law_path_con _ _ _ _ _ _ _) ⟨(by k_asm), (by k_asm), (by k_asm), (by k_asm), (by k_asm), (by first | exact rfl | assumption), (by ktr_room), (by ktr_units)⟩ (by walk_at "my sub") (by exact UpdF.head (by assumption)) (by assumption) ?_; k_whole); (rintro wvzw wozw wnewzw whzw wtkzw wFzw wNzw - whnezw ⟨wDzw, wpazw, wwdzw, wtzw, wixzw, wledzw, wcovzw, wsubzw, we1w, we2w, whPzw, wazw, wtazw, wbzw, wtbzw, wnzw, whokzw, we3w⟩; subst we1w; subst we2w; subst we3w; (replace wNzw := news_front wNzw); (replace whnezw := ne_front whnezw (by assumption)); (simp only [List.cons_append] at wNzw whnezw)))) | fail "no")
  k_with "my right" => (first | ((k_here; (with_reducible show wpAny _ _ (call (Value.ref 542) _) _ _ _); k_dflt (refine use_upd (law_right_con _ _ _ _ _ _ _) ⟨(by k_asm), (by k_asm), (by k_asm), (by k_asm), (by k_asm), (by first | exact rfl | assumption), (by ktr_room), (by ktr_units)⟩ (by walk_at "my sub") (by exact UpdF.head (by assumption)) (by assumption) ?_; k_whole); (rintro wvzw wozw wnewzw whzw wtkzw wFzw wNzw - - ⟨we1w, we2w, wazw, wtazw, wbzw, wtbzw, wnzw, whokzw, we3w⟩; subst we1w; subst we2w; subst we3w; (try simp only [List.nil_append] at wNzw)))) | fail "no")
  trivial
end Mine
set_option maxRecDepth 100000 in
theorem PySem.Challenge.cw_xw0238_01_holds : PySem.Challenge.rw_xw0238_01.Holds := by
  exact Mine.fin
