import PyProof.Rows.All
import Wide.All
import OpenK.AllK
import Wide.FinOn
import KE.KLam
import Lean
import PySem.Challenge.RW_on0164_01
open PySem PySem.W PySem.Calls PyProof.Rows
set_option Elab.async false
set_option linter.unusedVariables false
namespace Mine
noncomputable abbrev prog : Program := PySem.Challenge.pw_on0164_01
noncomputable def topAt (i : Nat) : Stmt := prog.main.body.getD i (.Pass default)
/-- the trees, the suite and the other suite of a statement -/
noncomputable def partsS (s : Stmt) : List Expr × List Stmt × List Stmt := Stmt.casesOn (motive_2 := fun _ => List Expr × List Stmt × List Stmt) s (fun _ _ b _ _ _ _ _ _ _ => ([], b, [])) (fun _ _ b _ _ _ _ _ _ _ => ([], b, [])) (fun _ _ _ b _ _ _ _ _ _ _ => ([], b, [])) (fun v _ => (v.toList, [], [])) (fun ts _ => (ts, [], []))
  (fun ts v _ => (v :: ts, [], [])) (fun _ _ _ _ _ _ _ => ([], [], [])) (fun t _ v _ => ([v, t], [], [])) (fun _ _ _ _ _ => ([], [], [])) (fun t i b o _ => ([t, i], b, o)) (fun _ _ _ _ _ => ([], [], [])) (fun t b o _ => ([t], b, o)) (fun t b o _ => ([t], b, o)) (fun _ b _ => ([], b, [])) (fun _ b _ => ([], b, [])) (fun _ _ _ => ([], [], []))
  (fun x _ _ => (x.toList, [], [])) (fun b _ _ _ _ => ([], b, [])) (fun b _ _ _ _ => ([], b, [])) (fun _ _ _ => ([], [], [])) (fun _ _ => ([], [], [])) (fun _ _ _ _ => ([], [], [])) (fun _ _ => ([], [], [])) (fun _ _ => ([], [], [])) (fun v _ => ([v], [], [])) (fun _ => ([], [], [])) (fun _ => ([], [], [])) (fun _ => ([], [], []))
noncomputable def defOf (s : Stmt) : Str × Arguments × List Stmt × Scope := Stmt.casesOn (motive_2 := fun _ => Str × Arguments × List Stmt × Scope) s (fun name args body _ _ _ scope _ _ _ => (name, args, body, scope)) (fun _ _ _ _ _ _ _ _ _ _ => (Str.empty, default, [], default)) (fun _ _ _ _ _ _ _ _ _ _ _ => (Str.empty, default, [], default)) (fun _ _ => (Str.empty, default, [], default)) (fun _ _ => (Str.empty, default, [], default)) (fun _ _ _ => (Str.empty, default, [], default)) (fun _ _ _ _ _ _ _ => (Str.empty, default, [], default)) (fun _ _ _ _ => (Str.empty, default, [], default)) (fun _ _ _ _ _ => (Str.empty, default, [], default)) (fun _ _ _ _ _ => (Str.empty, default, [], default)) (fun _ _ _ _ _ => (Str.empty, default, [], default)) (fun _ _ _ _ => (Str.empty, default, [], default)) (fun _ _ _ _ => (Str.empty, default, [], default)) (fun _ _ _ => (Str.empty, default, [], default)) (fun _ _ _ => (Str.empty, default, [], default)) (fun _ _ _ => (Str.empty, default, [], default)) (fun _ _ _ => (Str.empty, default, [], default)) (fun _ _ _ _ _ => (Str.empty, default, [], default)) (fun _ _ _ _ _ => (Str.empty, default, [], default)) (fun _ _ _ => (Str.empty, default, [], default)) (fun _ _ => (Str.empty, default, [], default)) (fun _ _ _ _ => (Str.empty, default, [], default)) (fun _ _ => (Str.empty, default, [], default)) (fun _ _ => (Str.empty, default, [], default)) (fun _ _ => (Str.empty, default, [], default)) (fun _ => (Str.empty, default, [], default)) (fun _ => (Str.empty, default, [], default)) (fun _ => (Str.empty, default, [], default))
noncomputable def inCls (st : Stmt) (j : Nat) : Stmt := (partsS st).2.1.getD j (.Pass default)
noncomputable def fdOf (st : Stmt) (pre : Str) (dflt : Value) (pm : Value) (code : Addr) : FuncData :=
  { name := (defOf st).1, qualname := pre ++ (defOf st).1, params := (defOf st).2.1, body := .stmts (defOf st).2.2.1, scope := (defOf st).2.2.2, globals := 3, closure := [], defaults := dflt, kwdefaults := .none, pyModule := pm, code := .ref code }
noncomputable def fnObj (st : Stmt) (pre : Str) (dflt : Value) (pm : Value) (code : Addr) : Obj := { cls := .type "function", data := .func (fdOf st pre dflt pm code) }
noncomputable abbrev pmG : Value := .str "grammarmill.grammar" 194
noncomputable abbrev pmS : Value := .str "grammarmill.source" 370
noncomputable abbrev pmA : Value := .str "grammarmill.analysis" 426
noncomputable abbrev pmL : Value := .str "law_on0164_01" 478
noncomputable def en (p : Params) (k : Str) (t : Tok) (v : Value) : DictEntry := ⟨PyData.keyHash p k, .str k t, v⟩
noncomputable def dctO (n : Nat) (es : List DictEntry) : Obj := { cls := .type "dict", data := .dict es.toArray n }
noncomputable def clsO (name : Str) (t1 t2 : Tok) (base0 : Option Value) (mk : String) (bases mro : List Value) (ns : Addr) (subs : List Value) : Obj :=
  { cls := .type "type", slots := #[base0, none, some (.str name t1), some (.str name t2), some (.builtin mk), some (.bool true)],
    data := .cls { name, bases, mro, ns, qualname := name, subclasses := subs } }
noncomputable def Kx : Params → Frag := fun p => [
  (3, dctO 34 [en p "__name__" 165 (.str "law_on0164_01" 478), en p "__doc__" 166 .none, en p "__package__" 167 .none, en p "__loader__" 168 (.builtin "__main__.__loader__#opaque"), en p "__spec__" 169 .none,
    en p "__annotations__" 170 (.ref 6), en p "__builtins__" 171 (.ref 4), en p "__file__" 173 (.str "/claim/cut.py" 172), en p "__cached__" 174 .none, en p "_wall" 193 (.ref 21), en p "Rule" 240 (.ref 39), en p "Grammar" 350 (.ref 121),
    en p "rule_told" 357 (.ref 132), en p "told" 363 (.ref 137), en p "restricted" 369 (.ref 142), en p "ToolError" 409 (.ref 167), en p "GrammarError" 425 (.ref 180), en p "spread" 433 (.ref 187), en p "productive" 439 (.ref 192),
    en p "reached_by" 452 (.ref 199), en p "useful_rules" 458 (.ref 204), en p "useless" 464 (.ref 209), en p "reduced" 470 (.ref 214), en p "is_reduced" 477 (.ref 221), en p "_law_pen" 488 (.ref 228), en p "_law_draw" 497 (.ref 235),
    en p "_law_pick" 505 (.ref 242), en p "_law_rows" 511 (.ref 247), en p "_law_grammar" 517 (.ref 252), en p "_law_having" 523 (.ref 257), en p "_law_needed" 529 (.ref 262), en p "_law_told" 535 (.ref 267), en p "_law_or_none" 542 (.ref 274), en p "law" 548 (.ref 279)]),
  (29, { cls := .type "tuple", data := .seq #[.int (-1) 209, .none, .int 0 210, .int 0 211] }),
  (36, fnObj (inCls (topAt 2) 0) "Rule." (.ref 29) pmG 35),
  (38, dctO 4 [en p "__module__" 203 pmG, en p "__firstlineno__" 207 (.int 5 206), en p "__init__" 225 (.ref 36), en p "__static_attributes__" 233 (.ref 37), en p "__dict__" 235 (.ref 40), en p "__weakref__" 237 (.ref 41), en p "__doc__" 238 .none]),
  (39, clsO "Rule" 196 204 none "object.__new__" [.type "object"] [.ref 39, .type "object"] 38 []),
  (55, fnObj (inCls (topAt 3) 0) "Grammar." .none pmG 54),
  (62, fnObj (inCls (topAt 3) 1) "Grammar." .none pmG 61),
  (69, fnObj (inCls (topAt 3) 2) "Grammar." .none pmG 68),
  (90, fnObj (inCls (topAt 3) 5) "Grammar." .none pmG 89),
  (104, fnObj (inCls (topAt 3) 7) "Grammar." .none pmG 103),
  (111, fnObj (inCls (topAt 3) 8) "Grammar." .none pmG 110),
  (118, fnObj (inCls (topAt 3) 9) "Grammar." .none pmG 117),
  (120, dctO 4 [en p "__module__" 248 pmG, en p "__firstlineno__" 252 (.int 15 251), en p "__init__" 258 (.ref 55), en p "symbol_count" 265 (.ref 62), en p "is_terminal" 273 (.ref 69), en p "is_middle" 281 (.ref 76), en p "number" 289 (.ref 83),
    en p "rules_of" 297 (.ref 90), en p "item" 306 (.ref 97), en p "rule_of" 314 (.ref 104), en p "dot_of" 322 (.ref 111), en p "after" 332 (.ref 118), en p "__static_attributes__" 343 (.ref 119), en p "__dict__" 345 (.ref 122), en p "__weakref__" 347 (.ref 123), en p "__doc__" 348 .none]),
  (121, clsO "Grammar" 241 249 none "object.__new__" [.type "object"] [.ref 121, .type "object"] 120 []),
  (132, fnObj (topAt 4) "" .none pmG 131),
  (137, fnObj (topAt 5) "" .none pmG 136),
  (142, fnObj (topAt 6) "" .none pmG 141),
  (150, { cls := .type "tuple", data := .seq #[.none] }),
  (157, fnObj (inCls (topAt 8) 0) "ToolError." (.ref 150) pmS 156),
  (166, dctO 3 [en p "__module__" 379 pmS, en p "__firstlineno__" 383 (.int 82 382), en p "__init__" 392 (.ref 157), en p "told" 399 (.ref 164), en p "__static_attributes__" 402 (.ref 165), en p "__weakref__" 404 (.ref 168), en p "__doc__" 405 .none]),
  (167, clsO "ToolError" 372 380 (some (.ref 143)) "Exception.__new__" [.type "Exception"] [.ref 167, .type "Exception", .type "BaseException", .type "object"] 166 [.ref 180]),
  (179, dctO 2 [en p "__module__" 417 pmS, en p "__firstlineno__" 421 (.int 93 420), en p "__static_attributes__" 422 (.ref 178), en p "__doc__" 423 .none]),
  (180, clsO "GrammarError" 410 418 (some (.ref 171)) "Exception.__new__" [.ref 167] [.ref 180, .ref 167, .type "Exception", .type "BaseException", .type "object"] 179 []),
  (187, fnObj (topAt 11) "" .none pmA 186),
  (192, fnObj (topAt 12) "" .none pmA 191),
  (199, fnObj (topAt 13) "" .none pmA 198),
  (204, fnObj (topAt 14) "" .none pmA 203),
  (209, fnObj (topAt 15) "" .none pmA 208),
  (213, { cls := .type "code", data := .fields #[.str "reduced" 465, .str "reduced" 466, .str "/claim/cut.py" 467, .int 157 0, .int 1 0, .int 0 0, .int 0 0, .int 3 0, .ref 210, .bool true, .int 181 0, .ref 211, .none, .none, .none, .ref 212, .int 468 0, .int 157 0, .str "/claim/cut.py" 469] }),
  (214, fnObj (topAt 16) "" .none pmA 213),
  (221, fnObj (topAt 17) "" .none pmA 220),
  (228, fnObj (topAt 19) "" .none pmL 227),
  (235, fnObj (topAt 20) "" .none pmL 234),
  (242, fnObj (topAt 21) "" .none pmL 241),
  (247, fnObj (topAt 22) "" .none pmL 246),
  (252, fnObj (topAt 23) "" .none pmL 251),
  (257, fnObj (topAt 24) "" .none pmL 256),
  (262, fnObj (topAt 25) "" .none pmL 261),
  (267, fnObj (topAt 26) "" .none pmL 266),
  (273, { cls := .type "code", data := .fields #[.str "_law_or_none" 536, .str "_law_or_none" 537, .str "/claim/cut.py" 538, .int 210 0, .int 1 0, .int 0 0, .int 0 0, .int 3 0, .ref 268, .bool true, .int 181 0, .ref 269, .none, .ref 270, .ref 271, .ref 272, .int 540 0, .int 210 0, .str "/claim/cut.py" 541] }),
  (274, fnObj (topAt 27) "" .none pmL 273),
  (278, { cls := .type "code", data := .fields #[.str "law" 543, .str "law" 544, .str "/claim/cut.py" 545, .int 215 0, .int 1 0, .int 0 0, .int 0 0, .int 3 0, .ref 275, .bool true, .int 181 0, .ref 276, .none, .none, .none, .ref 277, .int 546 0, .int 215 0, .str "/claim/cut.py" 547] }),
  (279, fnObj (topAt 28) "" .none pmL 278)]
noncomputable def asK : List Addr := [3, 29, 36, 38, 39, 55, 62, 69, 90, 104, 111, 118, 120, 121, 132, 137, 142, 150, 157, 166, 167, 179, 180, 187, 192, 199, 204, 209, 213, 214, 221, 228, 235, 242, 247, 252, 257, 262, 267, 273, 274, 278, 279]
noncomputable def fieldsO (d : Data) : Option (Array Value) := Data.casesOn d none (fun _ => none) (fun _ _ => none) (fun _ _ => none) (fun _ _ _ => none) (fun _ _ => none) (fun _ => none) (fun _ => none) (fun _ => none) (fun vs => some vs) none
theorem fieldsO_of {d : Data} {vs : Array Value} (h : fieldsO d = some vs) : d = .fields vs := by
  cases d <;> first | exact congrArg Data.fields (Option.some.inj h) | exact nomatch (h : none = some vs)
noncomputable def strO (v : Value) : Option Str := Value.casesOn v none none none (fun _ => none) (fun _ _ => none) (fun _ _ => none) (fun s _ => some s) (fun _ _ => none) (fun _ => none) (fun _ => none) (fun _ => none)
theorem strO_of {v : Value} {x : Str} (h : strO v = some x) : ∃ t, v = .str x t := by
  cases v <;> first | exact ⟨_, congrArg (Value.str · _) (Option.some.inj h)⟩ | exact nomatch (h : none = some x)
noncomputable def funcO (d : Data) : Option FuncData := Data.casesOn d none (fun _ => none) (fun _ _ => none) (fun _ _ => none) (fun _ _ _ => none) (fun _ _ => none) (fun _ => none) (fun f => some f) (fun _ => none) (fun _ => none) none
noncomputable def codeName (h : Heap) (c : Addr) : Option Str := (h.get? c).bind fun o => (fieldsO o.data).bind fun vs => (vs[1]?).bind strO
/-- the codes' addresses by the functions' -/
noncomputable def csK : List (Addr × Addr) := [(36, 35), (55, 54), (62, 61), (69, 68), (90, 89), (104, 103), (111, 110), (118, 117), (132, 131), (137, 136), (142, 141), (157, 156), (187, 186), (192, 191), (199, 198), (204, 203), (209, 208), (214, 213), (221, 220), (228, 227), (235, 234), (242, 241), (247, 246), (252, 251), (257, 256), (262, 261), (267, 266), (274, 273), (279, 278)]
noncomputable def fnQual (K : Frag) (f : Addr) : Option Str := (K.lookup f).bind fun o => (funcO o.data).map fun fd => fd.qualname
noncomputable def myHook : Hook where
  α := List (Option Obj) × List (Option Str) × Option Obj
  obs := fun s => (asK.map s.heap.get?, csK.map fun q => codeName s.heap q.2, s.heap.get? 276)
  val := fun w => ((Kx w.params).map (fun p => some p.2), csK.map fun q => fnQual (Kx w.params) q.1, some (tabObj #[]))
  says := fun w h => (Kx w.params).In h ∧ (∀ q ∈ csK, ∃ x, fnQual (Kx w.params) q.1 = some x ∧ h.CodeRec (.ref q.2) x) ∧ h.get? 276 = some (tabObj #[])
  of := fun w s e => by
    obtain ⟨e1, e2⟩ := Prod.mk.inj e
    obtain ⟨e2, e3⟩ := Prod.mk.inj e2
    refine ⟨Frag.in_of rfl e1, fun q hq => ?_, e3⟩
    have e4 := List.map_inj_left.mp e2 q hq
    have hsome : (fnQual (Kx w.params) q.1).isSome = true := by
      have : (csK.all fun q => (fnQual (Kx w.params) q.1).isSome) = true := by rfl
      exact List.all_eq_true.mp this q hq
    obtain ⟨x, hx⟩ := Option.isSome_iff_exists.mp hsome
    refine ⟨x, hx, ?_⟩
    rw [hx] at e4
    obtain ⟨o, ho, e5⟩ := Option.bind_eq_some_iff.mp e4
    obtain ⟨vs, hv, e6⟩ := Option.bind_eq_some_iff.mp e5
    obtain ⟨y, hy, e7⟩ := Option.bind_eq_some_iff.mp e6
    obtain ⟨t, rfl⟩ := strO_of e7
    exact ⟨_, o, vs, t, rfl, ho, fieldsO_of hv, hy⟩
  keeps := fun w h h' x k => ⟨x.1.keeps k, fun q hq => let ⟨y, a, b⟩ := x.2.1 q hq; ⟨y, a, b.keeps k⟩, k _ _ x.2.2⟩
end Mine
namespace Mine
noncomputable def topRunT (tb : String → Option Builtin) (p : Program) (w : World) (n₀ : Nat) (ann : Option Value) (n : Nat) : SharedT → Thread → Option SharedT :=
  Nat.rec (motive := fun _ => SharedT → Thread → Option SharedT) (fun _ _ => none) (fun _ ih s t => match through t with
    | true => some s
    | false => match stepOk n₀ ann t with
      | false => none
      | true => match stepT (denote tb) p w s t with
        | some q => ih q.1 q.2
        | none => none) n
theorem topRunT_spec {tb : String → Option Builtin} {p : Program} {w : World} {n₀ : Nat} {ann : Option Value} : ∀ {n : Nat} {s : SharedT} {t : Thread} {r : SharedT}, topRunT tb p w n₀ ann n s t = some r → topRun tb p w n₀ ann n s.abs t = some r.abs
  | 0, _, _, _, h => nomatch (h : none = some _)
  | n + 1, s, t, r, h => by
    have h' : (match through t with
      | true => some s
      | false => match stepOk n₀ ann t with
        | false => none
        | true => match stepT (denote tb) p w s t with
          | some q => topRunT tb p w n₀ ann n q.1 q.2
          | none => none) = some r := h
    show (match through t with
      | true => some s.abs
      | false => match stepOk n₀ ann t with
        | false => none
        | true => match step (denote tb) p w s.abs t with
          | .go s' t' => topRun tb p w n₀ ann n s' t'
          | .halt _ _ => none) = some r.abs
    cases ht : through t with
    | true => rw [ht] at h'; cases h'; rfl
    | false =>
      rw [ht] at h'
      cases hs : stepOk n₀ ann t with
      | false => rw [hs] at h'; cases h'
      | true =>
        rw [hs] at h'
        cases hq : stepT (denote tb) p w s t with
        | none => rw [hq] at h'; cases h'
        | some q =>
          rw [hq] at h'
          show (match step (denote tb) p w s.abs t with
          | .go s' t' => topRun tb p w n₀ ann n s' t'
          | .halt _ _ => none) = some r.abs
          rw [stepT_spec (s := s) (s' := q.1) (t := t) (t' := q.2) (by rw [hq])]
          exact topRunT_spec h'
/-- the objects of a list, one by one -/
noncomputable def grow (l : List Obj) : Nat → BT → Option BT := List.rec (motive := fun _ => Nat → BT → Option BT) (fun _ t => some t) (fun o _ ih n t => match ((t.ins n o).get n).isSome with
  | true => ih (n + 1) (t.ins n o)
  | false => none) l
theorem grow_spec {life : Life} : ∀ {l : List Obj} {n : Nat} {t t' : BT}, grow l n t = some t' → absHeap t' (n + l.length) life = ⟨((absHeap t n life).objs.toList ++ l).toArray, life⟩
  | [], n, t, t', h => by
    cases (h : some t = some t')
    rw [List.append_nil]
    rfl
  | o :: l, n, t, t', h => by
    have h' : (match ((t.ins n o).get n).isSome with
      | true => grow l (n + 1) (t.ins n o)
      | false => none) = some t' := h
    cases hs : ((t.ins n o).get n).isSome with
    | false => rw [hs] at h'; cases h'
    | true =>
      rw [hs] at h'
      have := grow_spec (life := life) h'
      rw [absHeap_ins hs] at this
      rw [List.length_cons, Nat.add_comm l.length 1, ← Nat.add_assoc, this]
      show (⟨(((absHeap t n life).objs.push o).toList ++ l).toArray, life⟩ : Heap) = _
      rw [Array.toList_push, List.append_assoc]
      rfl
noncomputable def toT (s : Shared) : Option SharedT := (grow s.heap.objs.toList 0 .nil).map fun t => ⟨t, s.heap.objs.size, s.heap.life, s.gens, s.drawn, s.toks, s.os⟩
theorem toT_spec {s : Shared} {S : SharedT} (h : toT s = some S) : S.abs = s := by
  obtain ⟨⟨objs, life⟩, gens, drawn, toks, os⟩ := s
  obtain ⟨t, ht, rfl⟩ := Option.map_eq_some_iff.mp h
  have := grow_spec (life := life) ht
  show (⟨absHeap t objs.size life, gens, drawn, toks, os⟩ : Shared) = _
  have e : absHeap t objs.size life = ⟨objs, life⟩ := by
    rw [show objs.size = 0 + objs.toList.length from (Nat.zero_add _).symm, this]
    rfl
  rw [e]
theorem leftT {p q : Program} {loose : List Str} {Xt : Shared → Bool} {α : Type} {Yf : Shared → α} {Ya : World → α} {N : Nat} {g0 : Bool}
    (h : ∀ w, ((fencedOpening treeTable p w N).bind fun s₀ => match s₀.heap.isNs mainGlobals && s₀.gens.size == 0 with
      | true => (toT s₀).bind fun S₀ => (topRunT treeTable p w s₀.heap.objs.size (s₀.heap.nsMap mainGlobals "__annotations__") N S₀ (topStub p)).bind fun S₁ =>
        match staticsOk (importedModules p.main.body) s₀.heap S₁.abs.heap && namesBound p S₁.abs.heap && gensDone S₁.abs && laidKept s₀.heap S₁.abs.heap with
        | true => some (openSeen q loose (importedModules p.main.body) Xt g0 S₁.abs, Yf S₁.abs)
        | false => none
      | false => none) = some (openGood q loose, Ya w)) : LeftO p q loose Xt Yf Ya N g0 := fun w => by
  obtain ⟨s₀, e, k⟩ := Option.bind_eq_some_iff.mp (h w)
  unfold openEnds
  rw [e]
  show (topFrom treeTable p w N s₀).map _ = _
  unfold topFrom
  cases hg : s₀.heap.isNs mainGlobals && s₀.gens.size == 0 with
  | false => rw [hg] at k; cases k
  | true =>
    rw [hg] at k
    obtain ⟨S₀, e₀, k⟩ := Option.bind_eq_some_iff.mp k
    obtain ⟨S₁, e₁, k⟩ := Option.bind_eq_some_iff.mp k
    have r := topRunT_spec e₁
    rw [toT_spec e₀] at r
    show ((topRun treeTable p w s₀.heap.objs.size (s₀.heap.nsMap mainGlobals "__annotations__") N s₀ (topStub p)).bind _).map _ = _
    rw [r]
    cases hs : staticsOk (importedModules p.main.body) s₀.heap S₁.abs.heap && namesBound p S₁.abs.heap && gensDone S₁.abs && laidKept s₀.heap S₁.abs.heap with
    | false => rw [hs] at k; cases k
    | true =>
      rw [hs] at k
      show (match staticsOk (importedModules p.main.body) s₀.heap S₁.abs.heap && namesBound p S₁.abs.heap && gensDone S₁.abs && laidKept s₀.heap S₁.abs.heap with
        | true => some S₁.abs
        | false => none).map _ = _
      rw [hs]
      exact k
noncomputable def qv : Program := { prog with main := { prog.main with body := [topAt 28] } }
noncomputable def looseL : List Str := ["_wall", "Rule", "Grammar", "rule_told", "told", "restricted", "ToolError", "GrammarError", "spread", "productive", "reached_by", "useful_rules", "useless", "reduced", "is_reduced", "_law_pen", "_law_draw", "_law_pick", "_law_rows", "_law_grammar", "_law_having", "_law_needed", "_law_told", "_law_or_none"]
set_option maxRecDepth 100000 in
set_option maxHeartbeats 8000000 in
theorem lf : LeftO prog qv looseL (fun s => xlAt qv [] s && recOk [] s) myHook.obs myHook.val 4000 := by
  refine leftT fun w => ?_
  kernel_rfl
end Mine
namespace Mine
noncomputable abbrev Fz := Addr → Option Obj
noncomputable def Le (F F' : Fz) : Prop := ∀ a o, F a = some o → F' a = some o
theorem Le.rfl {F : Fz} : Le F F := fun _ _ e => e
theorem Le.trans {F G K : Fz} (x : Le F G) (y : Le G K) : Le F K := fun a o e => y a o (x a o e)
/-- a datum: what a value must be to stand for it -/
structure D where
  is : Fz → Value → Prop
  mono : ∀ {F G : Fz} {v : Value}, Le F G → is F v → is G v
noncomputable def RepL (F : Fz) (vs : List Value) (ds : List D) : Prop := vs.length = ds.length ∧ ∀ (i : Nat) (v : Value) (d : D), vs[i]? = some v → ds[i]? = some d → d.is F v
theorem RepL.mono {F G : Fz} (h : Le F G) {vs : List Value} {ds : List D} (r : RepL F vs ds) : RepL G vs ds := ⟨r.1, fun i v d a b => d.mono h (r.2 i v d a b)⟩
theorem RepL.nil {F : Fz} : RepL F [] [] := ⟨rfl, fun _ _ _ a => by cases a⟩
theorem RepL.cons {F : Fz} {v : Value} {vs : List Value} {d : D} {ds : List D} (h : d.is F v) (r : RepL F vs ds) : RepL F (v :: vs) (d :: ds) :=
  ⟨congrArg (· + 1) r.1, fun i u e a b => by
    cases i with
    | zero => cases a; cases b; exact h
    | succ i => exact r.2 i u e a b⟩
theorem RepL.head {F : Fz} {v : Value} {vs : List Value} {d : D} {ds : List D} (r : RepL F (v :: vs) (d :: ds)) : d.is F v := r.2 0 v d rfl rfl
theorem RepL.tail {F : Fz} {v : Value} {vs : List Value} {d : D} {ds : List D} (r : RepL F (v :: vs) (d :: ds)) : RepL F vs ds := ⟨Nat.succ.inj r.1, fun i u e a b => r.2 (i + 1) u e a b⟩
theorem RepL.nil_inv {F : Fz} {vs : List Value} (r : RepL F vs []) : vs = [] := List.length_eq_zero_iff.mp r.1
theorem RepL.cons_inv {F : Fz} {vs : List Value} {d : D} {ds : List D} (r : RepL F vs (d :: ds)) : ∃ v us, vs = v :: us ∧ d.is F v ∧ RepL F us ds := by
  cases vs with
  | nil => cases r.1
  | cons v us => exact ⟨v, us, rfl, r.head, r.tail⟩
theorem RepL.one {F : Fz} {v : Value} {d : D} (h : d.is F v) : RepL F [v] [d] := .cons h .nil
theorem RepL.append {F : Fz} {vs us : List Value} {ds es : List D} (r : RepL F vs ds) (q : RepL F us es) : RepL F (vs ++ us) (ds ++ es) := by
  induction ds generalizing vs with
  | nil => rw [r.nil_inv]; exact q
  | cons d ds ih => obtain ⟨v, ws, rfl, a, b⟩ := r.cons_inv; exact .cons a (ih b)
theorem RepL.get {F : Fz} {vs : List Value} {ds : List D} {i : Nat} {d : D} (r : RepL F vs ds) (h : ds[i]? = some d) : ∃ v, vs[i]? = some v ∧ d.is F v := by
  obtain ⟨hi, rfl⟩ := List.getElem?_eq_some_iff.mp h
  have hv : i < vs.length := r.1 ▸ hi
  exact ⟨vs[i], List.getElem?_eq_getElem hv, r.2 i _ _ (List.getElem?_eq_getElem hv) h⟩
theorem RepL.drop {F : Fz} {vs : List Value} {ds : List D} (r : RepL F vs ds) (n : Nat) : RepL F (vs.drop n) (ds.drop n) :=
  ⟨by rw [List.length_drop, List.length_drop, r.1], fun i v d a b => r.2 (n + i) v d (by rwa [List.getElem?_drop] at a) (by rwa [List.getElem?_drop] at b)⟩
theorem RepL.take {F : Fz} {vs : List Value} {ds : List D} (r : RepL F vs ds) (n : Nat) : RepL F (vs.take n) (ds.take n) :=
  ⟨by rw [List.length_take, List.length_take, r.1], fun i v d a b => by
    by_cases h : i < n
    · rw [List.getElem?_take, if_pos h] at a b; exact r.2 i v d a b
    · rw [List.getElem?_take, if_neg h] at a; cases a⟩
theorem RepL.set {F : Fz} {vs : List Value} {ds : List D} {v : Value} {d : D} (r : RepL F vs ds) (h : d.is F v) (n : Nat) : RepL F (vs.set n v) (ds.set n d) :=
  ⟨by rw [List.length_set, List.length_set, r.1], fun i u e a b => by
    rw [List.getElem?_set] at a b
    by_cases hn : n = i
    · rw [if_pos hn] at a b
      split at a
      · split at b
        · cases a; cases b; exact h
        · cases b
      · cases a
    · rw [if_neg hn] at a b; exact r.2 i u e a b⟩
noncomputable def D.val (v₀ : Value) : D := ⟨fun _ v => v = v₀, fun _ h => h⟩
noncomputable abbrev D.bool (b : Bool) : D := .val (.bool b)
noncomputable abbrev D.none : D := .val .none
noncomputable abbrev D.ptr (a : Addr) : D := .val (.ref a)
noncomputable def D.int (i : Int) : D := ⟨fun _ v => ∃ t, v = .int i t, fun _ h => h⟩
noncomputable def D.str (x : Str) : D := ⟨fun _ v => ∃ t, v = .str x t, fun _ h => h⟩
inductive SeqIs (T : String) (F : Fz) (a : Addr) (ds : List D) : Prop
  | mk (vs : Array Value) (n : Nat) (f : F a = some { cls := .type T, data := .seq vs n }) (r : RepL F vs.toList ds)
theorem SeqIs.mono {T : String} {F G : Fz} {a : Addr} {ds : List D} (h : Le F G) (x : SeqIs T F a ds) : SeqIs T G a ds := by
  cases x with | mk vs n f r => exact .mk vs n (h _ _ f) (r.mono h)
noncomputable def D.seq (T : String) (ds : List D) : D := ⟨fun F v => ∃ a, v = .ref a ∧ SeqIs T F a ds, fun h x => x.imp fun _ y => ⟨y.1, y.2.mono h⟩⟩
noncomputable abbrev D.tup (ds : List D) : D := .seq "tuple" ds
noncomputable abbrev D.lst (ds : List D) : D := .seq "list" ds
/-- a dict of names that holds just these -/
noncomputable def lookE (es : List DictEntry) (x : Str) : Option Value := (es.find? fun e => e.key.isStr x).map fun e => e.val
inductive AttrsIs (fs : List (Str × D)) (F : Fz) (o : Obj) : Prop
  | mk (es : List DictEntry) (n : Nat) (e : o = dictOf es n) (k : ∀ e ∈ es, ∃ n t, e.key = .str n t) (z : es.length ≤ fs.length) (r : ∀ x d, fs.lookup x = some d → ∃ v, lookE es x = some v ∧ d.is F v) (a : ∀ x, fs.lookup x = none → lookE es x = none)
theorem AttrsIs.mono {fs : List (Str × D)} {F G : Fz} {o : Obj} (h : Le F G) (x : AttrsIs fs F o) : AttrsIs fs G o := by
  cases x with | mk es n e k z r a => exact .mk es n e k z (fun x d hq => (r x d hq).imp fun _ y => ⟨y.1, d.mono h y.2⟩) a
inductive InstIs (C : Addr) (F : Fz) (a : Addr) (fs : List (Str × D)) : Prop
  | mk (da : Addr) (o : Obj) (f : F a = some (instObj C da)) (g : F da = some o) (r : AttrsIs fs F o)
theorem InstIs.mono {C : Addr} {F G : Fz} {a : Addr} {fs : List (Str × D)} (h : Le F G) (x : InstIs C F a fs) : InstIs C G a fs := by
  cases x with | mk da o f g r => exact .mk da o (h _ _ f) (h _ _ g) (r.mono h)
noncomputable def D.obj (C : Addr) (fs : List (Str × D)) : D := ⟨fun F v => ∃ a, v = .ref a ∧ InstIs C F a fs, fun h x => x.imp fun _ y => ⟨y.1, y.2.mono h⟩⟩
inductive DctIs (w : World) (ks : List Int) (ds : List D) (F : Fz) (a : Addr) : Prop
  | mk (o : Obj) (es : Array DictEntry) (ep : Nat) (vs : List Value) (f : F a = some o) (x : o.ExactDict) (d : o.data = .dict es ep) (k : KeysOf (intKind prog w) es) (p : Pairs (intKind prog w) es.toList (ks.zip vs)) (n : ks.Nodup) (hl : ks.length = ds.length) (s : (a == sysModules) = false) (r : RepL F vs ds)
theorem DctIs.mono {w : World} {ks : List Int} {ds : List D} {F G : Fz} {a : Addr} (h : Le F G) (x : DctIs w ks ds F a) : DctIs w ks ds G a := by
  cases x with | mk o es ep vs f y d k p n hl s r => exact .mk o es ep vs (h _ _ f) y d k p n hl s (r.mono h)
noncomputable def D.dct (w : World) (ks : List Int) (ds : List D) : D := ⟨fun F v => ∃ a, v = .ref a ∧ DctIs w ks ds F a, fun h x => x.imp fun _ y => ⟨y.1, y.2.mono h⟩⟩
/-- what is said of an object that may turn -/
structure P where
  is : Fz → Obj → Prop
  mono : ∀ {F G : Fz} {o : Obj}, Le F G → is F o → is G o
inductive NsIs (m : List (Str × D)) (F : Fz) (o : Obj) : Prop
  | mk (es : Array DictEntry) (ep : Nat) (d : o.data = .dict es ep) (k : StrKeys es) (r : ∀ x d, m.lookup x = some d → ∃ v, nsFind es x = some v ∧ d.is F v)
theorem NsIs.mono {m : List (Str × D)} {F G : Fz} {o : Obj} (h : Le F G) (x : NsIs m F o) : NsIs m G o := by
  cases x with | mk es ep d k r => exact .mk es ep d k fun x d hq => (r x d hq).imp fun _ y => ⟨y.1, d.mono h y.2⟩
noncomputable def P.ns (m : List (Str × D)) : P := ⟨NsIs m, NsIs.mono⟩
inductive CellIs (d : Option D) (F : Fz) (o : Obj) : Prop
  | mk (v : Option Value) (e : o.data = .cell v) (n : d = none → v = none) (s : ∀ d', d = some d' → ∃ u, v = some u ∧ d'.is F u)
theorem CellIs.mono {d : Option D} {F G : Fz} {o : Obj} (h : Le F G) (x : CellIs d F o) : CellIs d G o := by
  cases x with | mk v e n s => exact .mk v e n fun d' hd => (s d' hd).imp fun _ y => ⟨y.1, d'.mono h y.2⟩
noncomputable def P.cell (d : Option D) : P := ⟨CellIs d, CellIs.mono⟩
inductive LstIs (ds : List D) (F : Fz) (o : Obj) : Prop
  | mk (vs : Array Value) (n : Nat) (e : o = listOf vs n) (r : RepL F vs.toList ds)
theorem LstIs.mono {ds : List D} {F G : Fz} {o : Obj} (h : Le F G) (x : LstIs ds F o) : LstIs ds G o := by
  cases x with | mk vs n e r => exact .mk vs n e (r.mono h)
noncomputable def P.lst (ds : List D) : P := ⟨LstIs ds, LstIs.mono⟩
noncomputable def P.attrs (fs : List (Str × D)) : P := ⟨AttrsIs fs, AttrsIs.mono⟩
inductive SeqIt (T U : String) (l : Addr) (ds : List D) (j : Nat) (F : Fz) (o : Obj) : Prop
  | mk (vs : Array Value) (n : Nat) (c : o.cls = .type U) (d : o.data = .fields #[.ref l, .int j 0]) (f : F l = some { cls := .type T, data := .seq vs n }) (r : RepL F vs.toList ds)
theorem SeqIt.mono {T U : String} {l : Addr} {ds : List D} {j : Nat} {F G : Fz} {o : Obj} (h : Le F G) (x : SeqIt T U l ds j F o) : SeqIt T U l ds j G o := by
  cases x with | mk vs n c d f r => exact .mk vs n c d (h _ _ f) (r.mono h)
noncomputable def P.seqIt (T U : String) (l : Addr) (ds : List D) (j : Nat) : P := ⟨SeqIt T U l ds j, SeqIt.mono⟩
noncomputable def upFrom (x : Int) (n : Nat) : List D := (List.range n).map fun (k : Nat) => D.int (x + (k : Int))
noncomputable def P.rngIt (x : Int) (n j : Nat) : P := ⟨fun _ o => o = { cls := .type "range_iterator", data := .fields #[rawInt (x + (j : Int)), rawInt ((n : Int) - (j : Int)), rawInt 1] }, fun _ h => h⟩
noncomputable def P.enum (it : Addr) (i : Nat) : P := ⟨fun _ o => ∃ old, o = { cls := .type "enumerate", data := .fields #[.none, .bool false, .ref it, rawInt (i : Int), .none, old] }, fun _ h => h⟩
noncomputable def P.raw (o₀ : Obj) : P := ⟨fun _ o => o = o₀, fun _ h => h⟩
end Mine
namespace Mine
noncomputable abbrev Frg (w : World) : Frag := Kx w.params
/-- what the whole walk stands on -/
structure Cx where
  w : World
  hb : Heap
  os : OsState
  mg : Str → Option Value
  mb : Str → Option Value
  K : (Frg w).In hb
  code : ∀ q ∈ csK, ∃ x, fnQual (Frg w) q.1 = some x ∧ hb.CodeRec (.ref q.2) x
  g : hb.Ns mainGlobals mg
  b : hb.Ns builtinsNs mb
  bl : ∀ x : Str, x ≠ "__name__" → mb x = bootBuiltins x
  lim : hb.NoLimit
noncomputable abbrev Cx.M (X : Cx) : Model := model prog X.w
abbrev Hs := List (Addr × P)
structure St (X : Cx) (H : Hs) (F : Fz) (s : Shared) : Prop where
  base : ∀ a o, X.hb.get? a = some o → F a = some o
  frz : ∀ a o, F a = some o → s.heap.get? a = some o
  tur : ∀ q ∈ H, ∃ o, s.heap.get? q.1 = some o ∧ q.2.is F o
  nd : (H.map (·.1)).Nodup
  sep : ∀ q ∈ H, F q.1 = none
  gens : s.gens = #[]
  os : s.os = X.os
/-- one place turned -/
def Up (a : Addr) (p : P) (H H' : Hs) : Prop := ∃ l q r, H = l ++ (a, q) :: r ∧ H' = l ++ (a, p) :: r
theorem Up.head {a : Addr} {p q : P} {r : Hs} : Up a p ((a, q) :: r) ((a, p) :: r) := ⟨[], q, r, rfl, rfl⟩
theorem Up.tail {a : Addr} {p : P} {x : Addr × P} {r r' : Hs} (u : Up a p r r') : Up a p (x :: r) (x :: r') := by
  obtain ⟨l, q, t, e1, e2⟩ := u
  exact ⟨x :: l, q, t, by rw [e1]; rfl, by rw [e2]; rfl⟩
theorem Up.keys {a : Addr} {p : P} {H H' : Hs} (u : Up a p H H') : H'.map (·.1) = H.map (·.1) := by
  obtain ⟨l, q, t, rfl, rfl⟩ := u
  rw [List.map_append, List.map_append, List.map_cons, List.map_cons]
theorem Up.old {a : Addr} {p : P} {H H' : Hs} (u : Up a p H H') : ∃ q, (a, q) ∈ H := by
  obtain ⟨l, q, t, rfl, rfl⟩ := u
  exact ⟨q, List.mem_append_right _ List.mem_cons_self⟩
theorem Up.mem {a : Addr} {p : P} {H H' : Hs} (u : Up a p H H') (nd : (H.map (·.1)).Nodup) : ∀ q ∈ H', q = (a, p) ∨ (q ∈ H ∧ q.1 ≠ a) := by
  obtain ⟨l, x, t, rfl, rfl⟩ := u
  intro q hq
  rw [List.map_append, List.map_cons, List.nodup_append, List.nodup_cons] at nd
  rcases List.mem_append.mp hq with h | h
  · exact .inr ⟨List.mem_append_left _ h, nd.2.2 q.1 (List.mem_map_of_mem h) a List.mem_cons_self⟩
  · rcases List.mem_cons.mp h with h | h
    · exact .inl h
    · exact .inr ⟨List.mem_append_right _ (List.mem_cons_of_mem _ h), fun e => by
        have := List.mem_map_of_mem (f := fun x : Addr × P => x.1) h
        rw [e] at this; exact nd.2.1.1 this⟩
/-- what is said at a place, weaker -/
def PWk (p p' : P) : Prop := ∀ F o, p.is F o → p'.is F o
theorem PWk.rfl {p : P} : PWk p p := fun _ _ h => h
theorem PWk.ns {m m' : List (Str × D)} (h : ∀ q ∈ m', m.lookup q.1 = some q.2) : PWk (.ns m) (.ns m') := fun F o x => by
  cases x with | mk es ep d k r => exact .mk es ep d k fun x d hq => r x d (h _ (mem_of_lookup hq))
def Wk (H H' : Hs) : Prop := List.Sublist (H'.map (·.1)) (H.map (·.1)) ∧ ∀ q ∈ H', ∃ p, (q.1, p) ∈ H ∧ PWk p q.2
theorem Wk.rfl {H : Hs} : Wk H H := ⟨List.Sublist.refl _, fun q hq => ⟨q.2, hq, .rfl⟩⟩
theorem Wk.skip {x : Addr × P} {H H' : Hs} (w : Wk H H') : Wk (x :: H) H' :=
  ⟨List.Sublist.cons _ w.1, fun q hq => (w.2 q hq).imp fun _ h => ⟨List.mem_cons_of_mem _ h.1, h.2⟩⟩
theorem Wk.keep {a : Addr} {p p' : P} {H H' : Hs} (k : PWk p p') (w : Wk H H') : Wk ((a, p) :: H) ((a, p') :: H') :=
  ⟨List.Sublist.cons_cons _ w.1, fun q hq => by
    rcases List.mem_cons.mp hq with e | hq
    · subst e; exact ⟨p, List.mem_cons_self, k⟩
    · exact (w.2 q hq).imp fun _ h => ⟨List.mem_cons_of_mem _ h.1, h.2⟩⟩
theorem Wk.same {x : Addr × P} {H H' : Hs} (w : Wk H H') : Wk (x :: H) (x :: H') := .keep .rfl w
theorem Wk.trans {H K L : Hs} (x : Wk H K) (y : Wk K L) : Wk H L :=
  ⟨y.1.trans x.1, fun q hq => by
    obtain ⟨p, h, k⟩ := y.2 q hq
    obtain ⟨p', h', k'⟩ := x.2 _ h
    exact ⟨p', h', fun F o e => k F o (k' F o e)⟩⟩
theorem Wk.drop {l H : Hs} : Wk (l ++ H) H := by
  induction l with
  | nil => exact .rfl
  | cons x l ih => exact .skip ih
/-- F with one more -/
def Fz.put (F : Fz) (a : Addr) (o : Obj) : Fz := fun b => if b = a then some o else F b
theorem Fz.put_at {F : Fz} {a : Addr} {o : Obj} : F.put a o a = some o := if_pos rfl
theorem Fz.put_le {F : Fz} {a : Addr} {o : Obj} (h : F a = none) : Le F (F.put a o) := fun b q e => by
  unfold Fz.put
  by_cases hb : b = a
  · subst hb; rw [h] at e; cases e
  · rw [if_neg hb]; exact e
theorem Fz.put_of {F : Fz} {a b : Addr} {o q : Obj} (e : F.put a o b = some q) : (b = a ∧ q = o) ∨ F b = some q := by
  by_cases hb : b = a
  · subst hb; rw [Fz.put_at] at e; exact .inl ⟨rfl, (Option.some.inj e).symm⟩
  · unfold Fz.put at e; rw [if_neg hb] at e; exact .inr e
namespace St
variable {X : Cx} {H H' : Hs} {F : Fz} {s : Shared}
theorem kIn (S : St X H F s) : (Frg X.w).In s.heap := fun a o e => S.frz _ _ (S.base _ _ (X.K a o e))
theorem hbk (S : St X H F s) : ∀ b o, X.hb.get? b = some o → s.heap.get? b = some o := fun b o e => S.frz _ _ (S.base _ _ e)
theorem lim (S : St X H F s) : s.heap.NoLimit := X.lim.keeps S.hbk
theorem lt (S : St X H F s) {a : Addr} {o : Obj} (e : F a = some o) : a < s.heap.objs.size := Heap.lt_size (S.frz _ _ e)
theorem mlt (S : St X H F s) {q : Addr × P} (e : q ∈ H) : q.1 < s.heap.objs.size := (S.tur q e).elim fun _ h => Heap.lt_size h.1
theorem ne (S : St X H F s) {q : Addr × P} (hq : q ∈ H) {a : Addr} {o : Obj} (e : F a = some o) : a ≠ q.1 := fun h => by
  have := S.sep q hq; rw [← h, e] at this; cases this
theorem wk (S : St X H F s) (w : Wk H H') : St X H' F s where
  base := S.base
  frz := S.frz
  tur := fun q hq => by
    obtain ⟨p, hp, k⟩ := w.2 q hq
    obtain ⟨o, e, a⟩ := S.tur _ hp
    exact ⟨o, e, k F o a⟩
  nd := w.1.nodup S.nd
  sep := fun q hq => (w.2 q hq).elim fun p h => S.sep (q.1, p) h.1
  gens := S.gens
  os := S.os
/-- the heap keeps all that it had -/
theorem keeps (S : St X H F s) {h' : Heap} {tk : Nat} (k : ∀ b o, s.heap.get? b = some o → h'.get? b = some o) : St X H F { s with heap := h', toks := tk } where
  base := S.base
  frz := fun a o e => k _ _ (S.frz _ _ e)
  tur := fun q hq => (S.tur q hq).imp fun _ h => ⟨k _ _ h.1, h.2⟩
  nd := S.nd
  sep := S.sep
  gens := S.gens
  os := S.os
theorem tok (S : St X H F s) {tk : Nat} : St X H F { s with toks := tk } := S.keeps (h' := s.heap) fun _ _ e => e
/-- more stands still -/
theorem grow (S : St X H F s) {G : Fz} (le : Le F G) (k : ∀ a o, G a = some o → F a = some o ∨ (s.heap.get? a = some o ∧ ∀ q ∈ H, q.1 ≠ a)) : St X H G s where
  base := fun a o e => le _ _ (S.base a o e)
  frz := fun a o e => (k a o e).elim (S.frz a o) (·.1)
  tur := fun q hq => (S.tur q hq).imp fun _ h => ⟨h.1, q.2.mono le h.2⟩
  nd := S.nd
  sep := fun q hq => by
    cases e : G q.1 with
    | none => rfl
    | some o =>
      rcases k _ _ e with h | h
      · rw [S.sep q hq] at h; cases h
      · exact absurd rfl (h.2 q hq)
  gens := S.gens
  os := S.os
theorem new (S : St X H F s) : F s.heap.objs.size = none := by
  cases e : F s.heap.objs.size with
  | none => rfl
  | some o => exact absurd (S.lt e) (Nat.lt_irrefl _)
/-- a new thing that stands still -/
theorem pushF (S : St X H F s) (o : Obj) (hf : o.isFreed = false := by rfl) {tk : Nat} : St X H (F.put s.heap.objs.size o) { s with heap := s.heap.push o, toks := tk } :=
  (S.keeps (h' := s.heap.push o) (tk := tk) fun b q e => Heap.get?_push_of_some _ e).grow (Fz.put_le S.new) fun a q e => by
    rcases Fz.put_of e with ⟨rfl, rfl⟩ | e
    · exact .inr ⟨Heap.get?_push_size _ hf, fun q hq e => Nat.lt_irrefl _ (e ▸ S.mlt hq)⟩
    · exact .inl e
/-- new things that turn, at places that were free -/
theorem fresh (S : St X H F s) {N : Hs} {h' : Heap} {tk : Nat} (k : ∀ b q, s.heap.get? b = some q → h'.get? b = some q) (ex : ∀ q ∈ N, ∃ o, h'.get? q.1 = some o ∧ q.2.is F o) (nd : (N.map (·.1)).Nodup) (hn : ∀ q ∈ N, s.heap.objs.size ≤ q.1) : St X (N ++ H) F { s with heap := h', toks := tk } :=
  have S' := S.keeps (h' := h') (tk := tk) k
  ⟨S'.base, S'.frz, fun q hq => (List.mem_append.mp hq).elim (ex q) (S'.tur q), by
    rw [List.map_append]
    refine List.nodup_append.mpr ⟨nd, S.nd, fun a ha b hb e => ?_⟩
    obtain ⟨q, hq, ea⟩ := List.mem_map.mp ha
    obtain ⟨p, hp, eb⟩ := List.mem_map.mp hb
    exact Nat.not_le.mpr (S.mlt hp) (eb ▸ e ▸ ea ▸ hn q hq),
  fun q hq => (List.mem_append.mp hq).elim (fun h => Option.eq_none_iff_forall_ne_some.mpr fun o e => Nat.not_le.mpr (S.lt e) (hn q h)) (S'.sep q), S'.gens, S'.os⟩
theorem more (S : St X H F s) {a : Addr} {p : P} {h' : Heap} {o : Obj} {tk : Nat} (k : ∀ b q, s.heap.get? b = some q → h'.get? b = some q) (e : h'.get? a = some o) (hn : s.heap.objs.size ≤ a) (hp : p.is F o) :
    St X ((a, p) :: H) F { s with heap := h', toks := tk } :=
  S.fresh (N := [(a, p)]) k (fun q hq => List.mem_singleton.mp hq ▸ ⟨o, e, hp⟩) (List.nodup_cons.mpr ⟨List.not_mem_nil, List.nodup_nil⟩) fun q hq => List.mem_singleton.mp hq ▸ hn
theorem pushH (S : St X H F s) (o : Obj) {p : P} (hp : p.is F o) (hf : o.isFreed = false := by rfl) {tk : Nat} : St X ((s.heap.objs.size, p) :: H) F { s with heap := s.heap.push o, toks := tk } :=
  S.more (fun b q e => Heap.get?_push_of_some _ e) (Heap.get?_push_size _ hf) (Nat.le_refl _) hp
/-- a place turned -/
theorem up (S : St X H F s) {a : Addr} {p : P} {h' : Heap} {o : Obj} {tk : Nat} (u : Up a p H H') (k : ∀ b q, b ≠ a → s.heap.get? b = some q → h'.get? b = some q) (e : h'.get? a = some o) (hp : p.is F o) : St X H' F { s with heap := h', toks := tk } := by
  obtain ⟨q0, hq0⟩ := u.old
  refine ⟨S.base, fun b q eb => k b q (S.ne hq0 eb) (S.frz _ _ eb), fun q hq => ?_, u.keys ▸ S.nd, fun q hq => ?_, S.gens, S.os⟩
  · rcases u.mem S.nd q hq with rfl | ⟨h1, h2⟩
    · exact ⟨o, e, hp⟩
    · exact (S.tur q h1).imp fun _ h => ⟨k _ _ h2 h.1, h.2⟩
  · rcases u.mem S.nd q hq with rfl | ⟨h1, _⟩
    · exact (S.sep (a, q0) hq0 : F a = none)
    · exact S.sep q h1
/-- a thing that turned turns no more -/
theorem freeze (S : St X H F s) {a : Addr} {p : P} (hm : (a, p) ∈ H) (w : Wk H H') (hn : ∀ q ∈ H', q.1 ≠ a) : ∃ o, s.heap.get? a = some o ∧ p.is F o ∧ Le F (F.put a o) ∧ St X H' (F.put a o) s := by
  obtain ⟨o, e, hp⟩ := S.tur _ hm
  have le := Fz.put_le (o := o) (S.sep _ hm)
  refine ⟨o, e, hp, le, (S.wk w).grow le fun b q eb => ?_⟩
  rcases Fz.put_of eb with ⟨rfl, rfl⟩ | eb
  · exact .inr ⟨e, hn⟩
  · exact .inl eb
theorem head_ne {a : Addr} {p : P} (S : St X ((a, p) :: H) F s) : ∀ q ∈ H, q.1 ≠ a := fun q hq e => by
  have nd := S.nd; rw [List.map_cons, List.nodup_cons] at nd
  have := List.mem_map_of_mem (f := fun x : Addr × P => x.1) hq
  rw [e] at this; exact nd.1 this
end St
inductive Got (X : Cx) (H' : Hs) (F : Fz) (s' : Shared) : Prop
  | mk (F' : Fz) (l : Le F F') (S : St X H' F' s')
inductive GotV (X : Cx) (H' : Hs) (d : D) (F : Fz) (v : Value) (s' : Shared) : Prop
  | mk (F' : Fz) (l : Le F F') (S : St X H' F' s') (r : d.is F' v)
inductive GotL (X : Cx) (H' : Hs) (ds : List D) (F : Fz) (vs : List Value) (s' : Shared) : Prop
  | mk (F' : Fz) (l : Le F F') (S : St X H' F' s') (r : RepL F' vs ds)
inductive GotR (X : Cx) (H' : Hs) (d : D) (F : Fz) (x : Result) (s' : Shared) : Prop
  | mk (v : Value) (F' : Fz) (e : x = .ok (.ret v)) (l : Le F F') (S : St X H' F' s') (r : d.is F' v)
inductive GotN (X : Cx) (H' : Hs) (ds : List D) (F : Fz) (v : Value) (s' : Shared) : Prop
  | mk (F' : Fz) (a : Addr) (e : v = .ref a) (l : Le F F') (S : St X ((a, .lst ds) :: H') F' s')
theorem Got.elim {X : Cx} {H' : Hs} {F : Fz} {s' : Shared} {p : Prop} (z : Got X H' F s') (k : ∀ F', Le F F' → St X H' F' s' → p) : p := by
  cases z with | mk F' l S => exact k F' l S
theorem GotV.elim {X : Cx} {H' : Hs} {d : D} {F : Fz} {v : Value} {s' : Shared} {p : Prop} (z : GotV X H' d F v s') (k : ∀ F', Le F F' → St X H' F' s' → d.is F' v → p) : p := by
  cases z with | mk F' l S r => exact k F' l S r
/-- a tree whose answer is d -/
def Ev (X : Cx) (A : Around) (t : Sem Value) (H : Hs) (d : D) (H' : Hs) : Prop :=
  ∀ F s, St X H F s → wpAny X.M A t (GotV X H' d F) (fun _ _ => False) s
/-- a tree that asks yes or no -/
def Ask (X : Cx) (A : Around) (t : Sem Bool) (H : Hs) (b : Bool) (H' : Hs) : Prop :=
  ∀ F s, St X H F s → wpAny X.M A t (fun c s' => c = b ∧ Got X H' F s') (fun _ _ => False) s
/-- trees one behind the other -/
def Evs (X : Cx) (A : Around) (t : Sem (List Value)) (H : Hs) (ds : List D) (H' : Hs) : Prop :=
  ∀ F s, St X H F s → wpAny X.M A t (GotL X H' ds F) (fun _ _ => False) s
/-- a call -/
def Fn (X : Cx) (A : Around) (f : Value) (ds : List D) (H : Hs) (d : D) (H' : Hs) : Prop :=
  ∀ F s vs, St X H F s → RepL F vs ds → codeAny X.M A (.call f ⟨vs, []⟩) (GotR X H' d F) s
/-- how a block may end -/
inductive Out where
  | next | brk | cont | ret (d : D)
def Out.Of (F : Fz) (f : Flow) : Out → Prop
  | .next => f = .next
  | .brk => f = .brk
  | .cont => f = .cont
  | .ret d => ∃ v, f = .ret v ∧ d.is F v
inductive GotF (X : Cx) (R : Out → Hs → Prop) (F : Fz) (f : Flow) (s' : Shared) : Prop
  | mk (F' : Fz) (H' : Hs) (o : Out) (l : Le F F') (S : St X H' F' s') (q : Out.Of F' f o) (k : R o H')
theorem GotF.elim {X : Cx} {R : Out → Hs → Prop} {F : Fz} {f : Flow} {s' : Shared} {p : Prop} (z : GotF X R F f s') (k : ∀ F' H' o, Le F F' → St X H' F' s' → Out.Of F' f o → R o H' → p) : p := by
  cases z with | mk F' H' o l S q r => exact k F' H' o l S q r
def Ex (X : Cx) (A : Around) (t : Sem Flow) (H : Hs) (R : Out → Hs → Prop) : Prop :=
  ∀ F s, St X H F s → wpAny X.M A t (GotF X R F) (fun _ _ => False) s
/-- a new list, its owner's own -/
def New (X : Cx) (A : Around) (t : Sem Value) (H : Hs) (ds : List D) (H' : Hs) : Prop :=
  ∀ F s, St X H F s → wpAny X.M A t (GotN X H' ds F) (fun _ _ => False) s
/-- the list that turned turns no more: it is a datum -/
theorem St.lst {X : Cx} {H : Hs} {F : Fz} {s : Shared} {a : Addr} {ds : List D} (S : St X ((a, .lst ds) :: H) F s) : ∃ F', Le F F' ∧ St X H F' s ∧ (D.lst ds).is F' (.ref a) := by
  obtain ⟨o, ho, hp, le, S'⟩ := S.freeze (p := .lst ds) List.mem_cons_self (.skip .rfl) S.head_ne
  cases hp with
  | mk vs n e r => subst e; exact ⟨_, le, S', a, rfl, .mk vs n Fz.put_at (r.mono le)⟩
theorem New.ev {X : Cx} {A : Around} {t : Sem Value} {H H' : Hs} {ds : List D} (h : New X A t H ds H') : Ev X A t H (.lst ds) H' := fun F s S =>
  wpAny_mono (h F s S) (fun v s' x => by
    obtain ⟨F', a, rfl, le, S'⟩ := x
    obtain ⟨F2, le2, S2, r⟩ := S'.lst
    exact ⟨F2, le.trans le2, S2, r⟩) fun _ _ e => e
theorem Ev.mono {X : Cx} {A : Around} {t : Sem Value} {H H' : Hs} {d : D} (h : Ev X A t H d H') {F : Fz} {s : Shared} (S : St X H F s) {Q : Value → Shared → Prop} {E : Value → Shared → Prop}
    (k : ∀ v F' s', Le F F' → St X H' F' s' → d.is F' v → Q v s') : wpAny X.M A t Q E s := wpAny_mono (h F s S) (fun v s' ⟨F', a, b, c⟩ => k v F' s' a b c) fun _ _ e => e.elim
theorem Evs.mono {X : Cx} {A : Around} {t : Sem (List Value)} {H H' : Hs} {ds : List D} (h : Evs X A t H ds H') {F : Fz} {s : Shared} (S : St X H F s) {Q : List Value → Shared → Prop} {E : Value → Shared → Prop}
    (k : ∀ v F' s', Le F F' → St X H' F' s' → RepL F' v ds → Q v s') : wpAny X.M A t Q E s := wpAny_mono (h F s S) (fun v s' ⟨F', a, b, c⟩ => k v F' s' a b c) fun _ _ e => e.elim
theorem Ask.mono {X : Cx} {A : Around} {t : Sem Bool} {H H' : Hs} {b : Bool} (h : Ask X A t H b H') {F : Fz} {s : Shared} (S : St X H F s) {Q : Bool → Shared → Prop} {E : Value → Shared → Prop}
    (k : ∀ F' s', Le F F' → St X H' F' s' → Q b s') : wpAny X.M A t Q E s := wpAny_mono (h F s S) (fun v s' ⟨e, F', a, c⟩ => e ▸ k F' s' a c) fun _ _ e => e.elim
theorem Ex.mono {X : Cx} {A : Around} {t : Sem Flow} {H : Hs} {R : Out → Hs → Prop} (h : Ex X A t H R) {F : Fz} {s : Shared} (S : St X H F s) {Q : Flow → Shared → Prop} {E : Value → Shared → Prop}
    (k : ∀ f F' s' o H', Le F F' → St X H' F' s' → Out.Of F' f o → R o H' → Q f s') : wpAny X.M A t Q E s := wpAny_mono (h F s S) (fun f s' ⟨F', H', o, a, b, c, d⟩ => k f F' s' o H' a b c d) fun _ _ e => e.elim
end Mine
namespace Mine
-- the parts of a tree, by number
noncomputable def kids (e : Expr) : List Expr := Expr.casesOn (motive_1 := fun _ => List Expr) e (fun _ vs _ => vs) (fun _ _ _ => []) (fun l _ r _ => [l, r]) (fun _ x _ => [x]) (fun _ b _ _ => [b]) (fun t b o _ => [t, b, o]) (fun _ _ _ => []) (fun _ _ _ => [])
  (fun x gs _ _ => x :: gs.flatMap fun g => g.target :: g.iter :: g.ifs) (fun _ _ _ _ => []) (fun _ _ _ _ _ => []) (fun _ _ _ _ => []) (fun _ _ => []) (fun _ _ => []) (fun _ _ => []) (fun l _ rs _ => l :: rs) (fun f as _ _ => f :: as) (fun _ _ _ _ => []) (fun _ _ => []) (fun _ _ _ => [])
  (fun v _ _ => [v]) (fun v s _ => [v, s]) (fun _ _ => []) (fun _ _ => []) (fun xs _ => xs) (fun xs _ _ => xs) (fun l u s _ => l.toList ++ u.toList ++ s.toList)
noncomputable def noE : Expr := .Name Str.empty default
noncomputable def kid (e : Expr) (i : Nat) : Expr := (kids e).getD i noE
noncomputable def k0 (e : Expr) : Expr := kid e 0
noncomputable def k1 (e : Expr) : Expr := kid e 1
noncomputable def k2 (e : Expr) : Expr := kid e 2
noncomputable def k3 (e : Expr) : Expr := kid e 3
noncomputable def hdE (l : List Expr) : Expr := l.headD noE
noncomputable def scopeE (e : Expr) : Scope := Expr.casesOn (motive_1 := fun _ => Scope) e (fun _ _ _ => default) (fun _ _ _ => default) (fun _ _ _ _ => default) (fun _ _ _ => default) (fun _ _ s _ => s) (fun _ _ _ _ => default) (fun _ _ _ => default) (fun _ _ _ => default)
  (fun _ _ s _ => s) (fun _ _ _ _ => default) (fun _ _ _ _ _ => default) (fun _ _ _ _ => default) (fun _ _ => default) (fun _ _ => default) (fun _ _ => default) (fun _ _ _ _ => default) (fun _ _ _ _ => default) (fun _ _ _ _ => default) (fun _ _ => default) (fun _ _ _ => default)
  (fun _ _ _ => default) (fun _ _ _ => default) (fun _ _ => default) (fun _ _ => default) (fun _ _ => default) (fun _ _ _ => default) (fun _ _ _ _ => default)
noncomputable def hdS (ss : List Stmt) : Stmt := ss.headD (.Pass default)
noncomputable def kidS (ss : List Stmt) (i : Nat) : Expr := (partsS (hdS ss)).1.getD i noE
noncomputable def z0 (ss : List Stmt) : Expr := kidS ss 0
noncomputable def z1 (ss : List Stmt) : Expr := kidS ss 1
noncomputable def bodyS (ss : List Stmt) : List Stmt := (partsS (hdS ss)).2.1
noncomputable def elseS (ss : List Stmt) : List Stmt := (partsS (hdS ss)).2.2
noncomputable def posS (ss : List Stmt) : Pos := (hdS ss).pos
noncomputable def stmtsOf (b : FuncBody) : List Stmt := match b with
  | .stmts b => b
  | _ => []
end Mine
namespace Mine
section
variable {X : Cx} {A : Around} {env : Env} {H H' H₁ H₂ : Hs} {e : Expr}
theorem Ev.at {e' : Expr} {d : D} (he : e = e') (h : Ev X A (eval e' env) H d H') : Ev X A (eval e env) H d H' := he ▸ h
def Tests (X : Cx) (A : Around) (e : Expr) (env : Env) (H : Hs) (b : Bool) (H' : Hs) : Prop := ∀ whole, whole = eval e env → Ask X A (isTrue e env whole) H b H'
-- names
noncomputable def locB (env : Env) (x : Str) : Bool := env.scope.kind == .function && (env.kindOf x == some .local && !(x == ("__debug__" : Str)))
theorem ev_local {x : Str} {d : D} {m : List (Str × D)} (he : e = .Name x e.pos) (hb : locB env x = true) (hx : m.lookup x = some d) : Ev X A (eval e env) ((env.locals, P.ns m) :: H) d ((env.locals, P.ns m) :: H) := .at he fun F s S => by
  obtain ⟨o, ho, hp⟩ := S.tur _ List.mem_cons_self
  unfold locB at hb
  rw [Bool.and_eq_true, Bool.and_eq_true, Bool.not_eq_true', beq_iff_eq, beq_iff_eq] at hb
  cases hp with
  | mk es ep e k r =>
    obtain ⟨v, hv, hr⟩ := r _ _ hx
    exact wpAny_Name (wpAny_loadName_local hb.1 hb.2.1 (m := nsFind es) ⟨o, es, ep, ho, e, k, fun _ => rfl⟩ hv ⟨F, .rfl, S, hr⟩) hb.2.2
noncomputable def celB (env : Env) (x : Str) : Bool := env.scope.kind == .function && ((env.kindOf x == some .cell || env.kindOf x == some .free) && (!(x == ("__debug__" : Str)) && !(x == ("__classdict__" : Str))))
theorem ev_cell {x : Str} {d : D} {c : Addr} (he : e = .Name x e.pos) (hb : celB env x = true) (hc : env.cells.lookup x = some c) (hm : (c, P.cell (some d)) ∈ H) : Ev X A (eval e env) H d H := .at he fun F s S => by
  obtain ⟨o, ho, hp⟩ := S.tur _ hm
  unfold celB at hb
  rw [Bool.and_eq_true, Bool.and_eq_true, Bool.and_eq_true, Bool.or_eq_true, Bool.not_eq_true', Bool.not_eq_true', beq_iff_eq, beq_iff_eq, beq_iff_eq] at hb
  cases hp with
  | mk v e n r =>
    obtain ⟨u, rfl, hr⟩ := r _ rfl
    refine wpAny_Name ?_ hb.2.2.1
    rcases hb.2.1 with hl | hl
    · exact wpAny_loadName_cell hb.1 hl hc ⟨o, ho, e⟩ ⟨F, .rfl, S, hr⟩
    · exact wpAny_loadName_free hb.1 hl hc ⟨o, ho, e⟩ ⟨F, .rfl, S, hr⟩ hb.2.2.2
noncomputable def gloB (env : Env) (x : Str) : Bool := env.scope.kind == .function && (env.kindOf x == some .globalImplicit && (env.globals == mainGlobals && (env.builtins == builtinsNs && (!(x == ("__name__" : Str)) && !(x == ("__debug__" : Str))))))
theorem gloB.all {x : Str} (hb : gloB env x = true) : env.scope.kind = .function ∧ env.kindOf x = some .globalImplicit ∧ env.globals = mainGlobals ∧ env.builtins = builtinsNs ∧ (x == ("__name__" : Str)) = false ∧ (x == ("__debug__" : Str)) = false := by
  unfold gloB at hb
  simpa only [Bool.and_eq_true, Bool.not_eq_true', beq_iff_eq] using hb
theorem ev_global {x : Str} {v : Value} (he : e = .Name x e.pos) (hb : gloB env x = true) (hv : nsIn (Frg X.w) mainGlobals x = some (some v)) : Ev X A (eval e env) H (.val v) H := .at he fun F s S =>
  have z := gloB.all hb
  Name_function_global z.1 z.2.1 (loadGlobal_global (by rw [z.2.2.1]; exact X.g.keeps S.hbk) (mg_of X.K X.g hv) ⟨F, .rfl, S, rfl⟩) z.2.2.2.2.2
theorem ev_builtin {x : Str} {v : Value} (he : e = .Name x e.pos) (hb : gloB env x = true) (hn : nsIn (Frg X.w) mainGlobals x = some none) (hv : bootBuiltins x = some v) : Ev X A (eval e env) H (.val v) H := .at he fun F s S =>
  have z := gloB.all hb
  Name_function_global z.1 z.2.1 (loadGlobal_builtin (by rw [z.2.2.1]; exact X.g.keeps S.hbk) (mg_none_of X.K X.g hn) (by rw [z.2.2.2.1]; exact X.b.keeps S.hbk) ((X.bl x (beq_eq_false_iff_ne.mp z.2.2.2.2.1)).trans hv) ⟨F, .rfl, S, rfl⟩) z.2.2.2.2.2
-- constants
theorem ev_int {i : Int} {k : Nat} (he : e = .Constant (.int i) k e.pos) : Ev X A (eval e env) H (.int i) H := .at he fun F s S => wpAny_Constant_int ⟨F, .rfl, S.tok, _, rfl⟩
theorem ev_str {x : Str} {k : Nat} (he : e = .Constant (.str x) k e.pos) : Ev X A (eval e env) H (.str x) H := .at he fun F s S => Constant_str ⟨F, .rfl, S.tok, _, rfl⟩
theorem ev_none {k : Nat} (he : e = .Constant .none k e.pos) : Ev X A (eval e env) H .none H := .at he fun F s S => wpAny_pure ⟨F, .rfl, S, rfl⟩
theorem ev_bool {b : Bool} {k : Nat} (he : e = .Constant (.bool b) k e.pos) : Ev X A (eval e env) H (.bool b) H := .at he fun F s S => wpAny_pure ⟨F, .rfl, S, rfl⟩
-- two sides and an operator
def Op2 (X : Cx) (A : Around) (f : Value → Value → Sem Value) (d₁ d₂ : D) (H : Hs) (d : D) (H' : Hs) : Prop :=
  ∀ F s v₁ v₂, St X H F s → d₁.is F v₁ → d₂.is F v₂ → wpAny X.M A (f v₁ v₂) (GotV X H' d F) (fun _ _ => False) s
/-- two trees, one behind the other -/
def Two (X : Cx) (A : Around) (a b : Expr) (env : Env) (H : Hs) (d₁ d₂ : D) (H' : Hs) : Prop :=
  ∀ F s, St X H F s → ∀ {Q : Value → Value → Shared → Prop} {E : Value → Shared → Prop}, (∀ v₁ v₂ F' s', Le F F' → St X H' F' s' → d₁.is F' v₁ → d₂.is F' v₂ → Q v₁ v₂ s') → wpAny X.M A (eval a env) (fun v₁ s₁ => wpAny X.M A (eval b env) (fun v₂ s₂ => Q v₁ v₂ s₂) E s₁) E s
theorem two {a b : Expr} {d₁ d₂ : D} (h₁ : Ev X A (eval a env) H d₁ H₁) (h₂ : Ev X A (eval b env) H₁ d₂ H') : Two X A a b env H d₁ d₂ H' := fun F s S Q E k =>
  h₁.mono S fun v₁ F₁ s₁ l₁ S₁ r₁ => h₂.mono S₁ fun v₂ F₂ s₂ l₂ S₂ r₂ => k v₁ v₂ F₂ s₂ (l₁.trans l₂) S₂ (d₁.mono l₂ r₁) r₂
theorem GotV.le {d : D} {F F' : Fz} {v : Value} {s : Shared} (l : Le F F') (z : GotV X H d F' v s) : GotV X H d F v s := by
  cases z with | mk G l' S r => exact ⟨G, l.trans l', S, r⟩
theorem ev_bin {op : Operator} {d₁ d₂ d : D} (he : e = .BinOp (k0 e) op (k1 e) e.pos) (h₁ : Ev X A (eval (k0 e) env) H d₁ H₁) (h₂ : Ev X A (eval (k1 e) env) H₁ d₂ H₂) (h : Op2 X A (binaryOp op) d₁ d₂ H₂ d H') : Ev X A (eval e env) H d H' := .at he fun F s S =>
  wpAny_BinOp (two h₁ h₂ F s S fun v₁ v₂ F₂ s₂ l S₂ r₁ r₂ => wpAny_mono (h F₂ s₂ v₁ v₂ S₂ r₁ r₂) (fun v s' z => z.le l) fun _ _ e => e)
theorem ev_cmp {op : CmpOp} {d₁ d₂ d : D} (he : e = .Compare (k0 e) [op] [k1 e] e.pos) (h₁ : Ev X A (eval (k0 e) env) H d₁ H₁) (h₂ : Ev X A (eval (k1 e) env) H₁ d₂ H₂) (h : Op2 X A (compareOp op) d₁ d₂ H₂ d H') (hm : behindInMarks op (k1 e) = false) : Ev X A (eval e env) H d H' := .at he fun F s S =>
  wpAny_Compare1 (two h₁ h₂ F s S fun v₁ v₂ F₂ s₂ l S₂ r₁ r₂ => wpAny_mono (h F₂ s₂ v₁ v₂ S₂ r₁ r₂) (fun v s' z => z.le l) fun _ _ e => e) hm
theorem Tests.at {e' : Expr} {b : Bool} (he : e = e') (h : ∀ whole, whole = eval e env → Ask X A (isTrue e' env whole) H b H') : Tests X A e env H b H' := fun whole hw => by
  have := h whole hw; rw [← he] at this; exact this
theorem ask_cmp {op : CmpOp} {d₁ d₂ : D} {b : Bool} (he : e = .Compare (k0 e) [op] [k1 e] e.pos) (h₁ : Ev X A (eval (k0 e) env) H d₁ H₁) (h₂ : Ev X A (eval (k1 e) env) H₁ d₂ H₂) (h : Op2 X A (compareOp op) d₁ d₂ H₂ (.bool b) H') (hm : behindInMarks op (k1 e) = false) : Tests X A e env H b H' := .at he fun _ _ F s S =>
  wpAny_isTrue_Compare1 (two h₁ h₂ F s S fun v₁ v₂ F₂ s₂ l S₂ r₁ r₂ => wpAny_mono (h F₂ s₂ v₁ v₂ S₂ r₁ r₂) (fun v s' z => z.elim fun F' l' S' r => (r : v = Value.bool b) ▸ wpAny_truthy_bool ⟨rfl, F', l.trans l', S'⟩) fun _ _ e => e) hm
theorem op_add {a b : Int} : Op2 X A (binaryOp .Add) (.int a) (.int b) H (.int (a + b)) H := fun F s v₁ v₂ S ⟨t, e⟩ ⟨u, e'⟩ => by subst e e'; exact wpAny_add_int ⟨F, .rfl, S.tok, _, rfl⟩
theorem op_sub {a b : Int} : Op2 X A (binaryOp .Sub) (.int a) (.int b) H (.int (a - b)) H := fun F s v₁ v₂ S ⟨t, e⟩ ⟨u, e'⟩ => by subst e e'; exact PyProof.Rows.sub_int ⟨F, .rfl, S.tok, _, rfl⟩
theorem op_mul {a b : Int} (h : IntMulOk a b) : Op2 X A (binaryOp .Mult) (.int a) (.int b) H (.int (a * b)) H := fun F s v₁ v₂ S ⟨t, e⟩ ⟨u, e'⟩ => by subst e e'; exact PyProof.Rows.mul_int ⟨F, .rfl, S.tok, _, rfl⟩ h
theorem op_mod {a b : Int} (h : b ≠ 0) : Op2 X A (binaryOp .Mod) (.int a) (.int b) H (.int (a.fmod b)) H := fun F s v₁ v₂ S ⟨t, e⟩ ⟨u, e'⟩ => by subst e e'; exact PyProof.Rows.mod_int' h ⟨F, .rfl, S.tok, _, rfl⟩
theorem op_div {a b : Int} (h : b ≠ 0) (h2 : b.natAbs < 2 ^ 30) : Op2 X A (binaryOp .FloorDiv) (.int a) (.int b) H (.int (a.fdiv b)) H := fun F s v₁ v₂ S ⟨t, e⟩ ⟨u, e'⟩ => by subst e e'; exact PyProof.Rows.floordiv_int h ⟨F, .rfl, S.tok, _, rfl⟩ (.inl (PyProof.noPylong_small h2))
theorem op_lt {a b : Int} : Op2 X A (compareOp .Lt) (.int a) (.int b) H (.bool (decide (a < b))) H := fun F s v₁ v₂ S ⟨t, e⟩ ⟨u, e'⟩ => by subst e e'; exact PyProof.Rows.lt_int ⟨F, .rfl, S, rfl⟩
theorem op_le {a b : Int} : Op2 X A (compareOp .LtE) (.int a) (.int b) H (.bool (decide (a ≤ b))) H := fun F s v₁ v₂ S ⟨t, e⟩ ⟨u, e'⟩ => by subst e e'; exact PyProof.Rows.le_int ⟨F, .rfl, S, rfl⟩
theorem op_eqi {a b : Int} : Op2 X A (compareOp .Eq) (.int a) (.int b) H (.bool (a == b)) H := fun F s v₁ v₂ S ⟨t, e⟩ ⟨u, e'⟩ => by subst e e'; exact PyProof.Rows.eq_int ⟨F, .rfl, S, rfl⟩
theorem op_is {v : Value} : Op2 X A (compareOp .Is) (.val v) .none H (.bool (v == .none)) H := fun F s v₁ v₂ S e e' => by cases e; cases e'; exact PySem.is_none ⟨F, .rfl, S, rfl⟩
theorem ev_neg {a : Int} (he : e = .UnaryOp .USub (k0 e) e.pos) (h : Ev X A (eval (k0 e) env) H (.int a) H') : Ev X A (eval e env) H (.int (-a)) H' := .at he fun F s S =>
  wpAny_UnaryOp (h.mono S fun v F₁ s₁ l₁ S₁ ⟨t, e⟩ => by subst e; exact PyProof.Rows.neg_int ⟨F₁, l₁, S₁.tok, _, rfl⟩)
theorem ev_not {b : Bool} (he : e = .UnaryOp .Not (k0 e) e.pos) (h : Ev X A (eval (k0 e) env) H (.bool b) H') : Ev X A (eval e env) H (.bool (!b)) H' := .at he fun F s S =>
  wpAny_UnaryOp (h.mono S fun v F₁ s₁ l₁ S₁ e => by rw [show v = Value.bool b from e]; exact not_of (wpAny_truthy_bool ⟨F₁, l₁, S₁, rfl⟩))
-- tests
theorem ask_not {b : Bool} (he : e = .UnaryOp .Not (k0 e) e.pos) (h : Tests X A (k0 e) env H b H') : Tests X A e env H (!b) H' := .at he fun _ _ F s S =>
  isTrue_not ((h _ rfl).mono S fun F' s' a b => ⟨rfl, F', a, b⟩)
theorem ask_and {b c : Bool} (he : e = .BoolOp .And [k0 e, k1 e] e.pos) (h : Tests X A (k0 e) env H b H₁) (k : b = true → Tests X A (k1 e) env H₁ c H') (hf : b = false → H₁ = H') : Tests X A e env H (b && c) H' := .at he fun _ _ F s S =>
  isTrue_and ((h _ rfl).mono S fun F' s' a S' => by
    cases b with
    | false => cases hf rfl; exact ⟨rfl, F', a, S'⟩
    | true => exact isTrue_and ((k rfl _ rfl).mono S' fun F2 s2 a2 S2 => by
        cases c with
        | false => exact ⟨rfl, F2, a.trans a2, S2⟩
        | true => exact isTrue_and_nil ⟨rfl, F2, a.trans a2, S2⟩))
theorem ask_or {b c : Bool} (he : e = .BoolOp .Or [k0 e, k1 e] e.pos) (h : Tests X A (k0 e) env H b H₁) (k : b = false → Tests X A (k1 e) env H₁ c H') (hf : b = true → H₁ = H') : Tests X A e env H (b || c) H' := .at he fun _ _ F s S =>
  isTrue_or ((h _ rfl).mono S fun F' s' a S' => by
    cases b with
    | true => cases hf rfl; exact ⟨rfl, F', a, S'⟩
    | false => exact isTrue_or ((k rfl _ rfl).mono S' fun F2 s2 a2 S2 => by
        cases c with
        | true => exact ⟨rfl, F2, a.trans a2, S2⟩
        | false => exact isTrue_or_nil ⟨rfl, F2, a.trans a2, S2⟩))
theorem ask_plain {b : Bool} (h : Ev X A (eval e env) H (.bool b) H') (he : ∀ whole, isTrue e env whole = (do let v ← whole; standAt e.pos; holding [v] (truthy v))) : Tests X A e env H b H' := fun whole hw F s S =>
  isTrue_plain ((hw ▸ h).mono S fun v F₁ s₁ l₁ S₁ e => by rw [show v = Value.bool b from e]; exact wpAny_truthy_bool ⟨rfl, F₁, l₁, S₁⟩) (he whole)
theorem ev_and {b : Bool} {c : D} (he : e = .BoolOp .And [k0 e, k1 e] e.pos) (h : Ev X A (eval (k0 e) env) H (.bool b) H₁) (k : b = true → Ev X A (eval (k1 e) env) H₁ c H') (hf : b = false → H₁ = H' ∧ c = .bool false) : Ev X A (eval e env) H c H' := .at he fun F s S =>
  BoolOp_and (h.mono S fun v F₁ s₁ l₁ S₁ e => by
    rw [show v = Value.bool b from e]
    refine wpAny_truthy_bool ?_
    cases b with
    | false => obtain ⟨rfl, rfl⟩ := hf rfl; exact ⟨F₁, l₁, S₁, rfl⟩
    | true => exact (k rfl).mono S₁ fun v F2 s2 a2 S2 r2 => ⟨F2, l₁.trans a2, S2, r2⟩)
theorem ev_if {b : Bool} {d : D} (he : e = .IfExp (k0 e) (k1 e) (k2 e) e.pos) (h : Tests X A (k0 e) env H b H₁) (ht : b = true → Ev X A (eval (k1 e) env) H₁ d H') (hf : b = false → Ev X A (eval (k2 e) env) H₁ d H') : Ev X A (eval e env) H d H' := .at he fun F s S =>
  wpAny_IfExp ((h _ rfl).mono S fun F₁ s₁ l₁ S₁ => by
    cases b with
    | true => exact (ht rfl).mono S₁ fun v F2 s2 a2 S2 r2 => ⟨F2, l₁.trans a2, S2, r2⟩
    | false => exact (hf rfl).mono S₁ fun v F2 s2 a2 S2 r2 => ⟨F2, l₁.trans a2, S2, r2⟩)
-- lists of trees
theorem evs_nil : Evs X A (spliced []) H [] H := fun F s S => spliced_nil ⟨F, .rfl, S, .nil⟩
theorem evs_cons {x : Sem Value} {rest : List (Bool × Sem Value)} {d : D} {ds : List D} (h : Ev X A x H d H₁) (k : Evs X A (spliced rest) H₁ ds H') : Evs X A (spliced ((false, x) :: rest)) H (d :: ds) H' := fun F s S =>
  spliced_cons (h.mono S fun v F₁ s₁ l₁ S₁ r₁ => k.mono S₁ fun vs F₂ s₂ l₂ S₂ r₂ => ⟨F₂, l₁.trans l₂, S₂, .cons (d.mono l₂ r₁) r₂⟩)
/-- arguments, items of a display -/
def Argz (X : Cx) (A : Around) (as : List Expr) (env : Env) (H : Hs) (ds : List D) (H' : Hs) : Prop := (∀ pos, (backTo pos (starEach as env)).any (·.1) = false) ∧ ∀ pos, Evs X A (spliced (backTo pos (starEach as env))) H ds H'
theorem as_nil : Argz X A [] env H [] H := ⟨fun _ => rfl, fun _ => evs_nil⟩
theorem as_cons {as : List Expr} {d : D} {ds : List D} (ha : as = hdE as :: as.tail) (hs : starEach (hdE as :: as.tail) env = (false, eval (hdE as) env) :: starEach as.tail env) (h : Ev X A (eval (hdE as) env) H d H₁) (k : Argz X A as.tail env H₁ ds H') : Argz X A as env H (d :: ds) H' := by
  rw [ha]
  refine ⟨fun pos => ?_, fun pos => ?_⟩
  · rw [hs]; show (false || (backTo pos (starEach as.tail env)).any (·.1)) = false; rw [k.1]; rfl
  · rw [hs]; exact evs_cons h (k.2 pos)
-- displays
theorem new_list {ds : List D} (he : e = .List (kids e) e.pos) (h : Argz X A (kids e) env H ds H') (hz : Nat.ble ds.length sizeLine = true) : New X A (eval e env) H ds H' := fun F s S => by
  rw [he]
  exact List_ ((h.2 _).mono S fun vs F₁ s₁ l₁ S₁ r₁ => wpAny_newObj_type ⟨F₁, _, rfl, l₁, S₁.pushH (p := .lst ds) _ (.mk vs.toArray 0 rfl r₁)⟩ (by show vs.toArray.size ≤ sizeLine; rw [List.size_toArray, r₁.1]; exact Nat.le_of_ble_eq_true hz))
theorem ev_tup {ds : List D} {k : Nat} (he : e = .Tuple (kids e) k e.pos) (h : Argz X A (kids e) env H ds H') (hz : Nat.ble ds.length sizeLine = true) : Ev X A (eval e env) H (.tup ds) H' := .at he fun F s S =>
  Tuple_ ((h.2 _).mono S fun vs F₁ s₁ l₁ S₁ r₁ => wpAny_newObj_type ⟨_, l₁.trans (Fz.put_le S₁.new), S₁.pushF _, _, rfl, .mk vs.toArray 0 Fz.put_at (r₁.mono (Fz.put_le S₁.new))⟩ (by show vs.toArray.size ≤ sizeLine; rw [List.size_toArray, r₁.1]; exact Nat.le_of_ble_eq_true hz))
end
end Mine
namespace Mine
/-- a datum that an attribute hands on as it is -/
def Hand (d : D) : Prop := ∀ F v, d.is F v → handedIn v = true
theorem hand_int {i : Int} : Hand (.int i) := fun F v ⟨t, e⟩ => by subst e; rfl
theorem hand_str {x : Str} : Hand (.str x) := fun F v ⟨t, e⟩ => by subst e; rfl
theorem hand_seq {T : String} {ds : List D} : Hand (.seq T ds) := fun F v ⟨a, e, _⟩ => by subst e; rfl
theorem hand_obj {C : Addr} {fs : List (Str × D)} : Hand (.obj C fs) := fun F v ⟨a, e, _⟩ => by subst e; rfl
theorem hand_dct {w : World} {ks : List Int} {ds : List D} : Hand (.dct w ks ds) := fun F v ⟨a, e, _⟩ => by subst e; rfl
theorem hand_none : Hand .none := fun F v e => by cases e; rfl
theorem hand_bool {b : Bool} : Hand (.bool b) := fun F v e => by cases e; rfl
theorem hand_ptr {a : Addr} : Hand (.ptr a) := fun F v e => by cases e; rfl
/-- what is being made: its dict stands at dx -/
noncomputable def D.self (C dx : Addr) : D := ⟨fun F v => ∃ a, v = .ref a ∧ F a = some (instObj C dx), fun h x => x.imp fun _ y => ⟨y.1, h _ _ y.2⟩⟩
theorem AttrsIs.look {F : Fz} {name : Str} {fs : List (Str × D)} {o : Obj} (h : AttrsIs fs F o) : (∀ d, fs.lookup name = some d → ∃ v, lookIn name o = some (some v) ∧ d.is F v) ∧ (fs.lookup name = none → lookIn name o = some none) := by
  cases h with
  | mk es n e k z r a =>
    have hl : lookIn name o = some (lookE es name) := by
      rw [e, lookIn_dict]
      unfold getL lookE
      cases es.find? (·.key.isStr name) with
      | some e => rfl
      | none =>
        show (if es.any (·.refKey) then (none : Option (Option Value)) else some none) = some none
        rw [if_neg]
        intro hc
        obtain ⟨en, hen, hr⟩ := List.any_eq_true.mp hc
        obtain ⟨x, t, hx⟩ := k en hen
        unfold DictEntry.refKey at hr; rw [hx] at hr; cases hr
    rw [hl]
    exact ⟨fun d hd => (r name d hd).imp fun v z => ⟨congrArg some z.1, z.2⟩, fun hn => congrArg some (a name hn)⟩
theorem isStr_of {e : DictEntry} {n x : Str} {t : Tok} (h : e.key = .str n t) : e.key.isStr x = (n == x) := by rw [h]; rfl
theorem lookE_cons {e : DictEntry} {es : List DictEntry} {n y : Str} {t : Tok} (h : e.key = .str n t) : lookE (e :: es) y = if n = y then some e.val else lookE es y := by
  unfold lookE
  rw [List.find?_cons, isStr_of h]
  by_cases hy : n = y
  · rw [if_pos hy, beq_iff_eq.mpr hy]; rfl
  · rw [if_neg hy, beq_eq_false_iff_ne.mpr hy]
theorem put_all {name : Str} {h : Int} {t : Tok} {v : Value} (es : List DictEntry) (k : ∀ e ∈ es, ∃ n t, e.key = Value.str n t) : (∀ e ∈ putL name h (.str name t) v es, ∃ n t, e.key = Value.str n t) ∧ (putL name h (.str name t) v es).length ≤ es.length + 1 ∧ ∀ y, lookE (putL name h (.str name t) v es) y = if name = y then some v else lookE es y := by
  induction es with
  | nil => exact ⟨fun e he => ⟨name, t, by rw [List.mem_singleton.mp he]⟩, Nat.le_refl _, fun y => lookE_cons rfl⟩
  | cons e r ih =>
    obtain ⟨n, u, he⟩ := k e List.mem_cons_self
    have k' : ∀ e ∈ r, ∃ n t, e.key = Value.str n t := fun e h => k e (List.mem_cons_of_mem _ h)
    obtain ⟨i1, i2, i3⟩ := ih k'
    unfold putL
    rw [isStr_of he]
    by_cases hn : n = name
    · rw [if_pos (beq_iff_eq.mpr hn)]
      refine ⟨fun x hx => (List.mem_cons.mp hx).elim (fun q => ⟨n, u, by rw [q]; exact he⟩) (k' x), Nat.le_succ _, fun y => ?_⟩
      rw [lookE_cons (e := ⟨e.hash, e.key, v⟩) he, lookE_cons he, hn]
      by_cases hy : name = y
      · rw [if_pos hy, if_pos hy]
      · rw [if_neg hy, if_neg hy, if_neg hy]
    · rw [if_neg (fun q => hn (beq_iff_eq.mp q))]
      refine ⟨fun x hx => (List.mem_cons.mp hx).elim (fun q => ⟨n, u, by rw [q]; exact he⟩) (i1 x), Nat.succ_le_succ i2, fun y => ?_⟩
      rw [lookE_cons he, lookE_cons he, i3]
      by_cases hy : n = y
      · rw [if_pos hy, if_pos hy, if_neg (fun q => hn (hy.trans q.symm))]
      · rw [if_neg hy, if_neg hy]
section
variable {X : Cx} {A : Around} {env : Env} {H H' H₁ H₂ : Hs}
/-- what the text says of an own class -/
structure Cls (X : Cx) (C : Addr) : Prop where
  ga : findIn (Frg X.w) (.ref C) "__getattribute__" = some (some (.builtin "object.__getattribute__"))
  gt : findIn (Frg X.w) (.ref C) "__getattr__" = some none
  dic : hasDictIn (Frg X.w) C = true
  sa : findIn (Frg X.w) (.ref C) "__setattr__" = some (some (.builtin "object.__setattr__"))
  po : plainOver (Frg X.w) C = true
theorem attr_of {C x dx : Addr} {o : Obj} {fs : List (Str × D)} {name : Str} {d : D} {F : Fz} {s : Shared} {Q : Value → Shared → Prop} {E : Value → Shared → Prop} (K : Cls X C) (S : St X H F s)
    (hx : s.heap.get? x = some (instObj C dx)) (hd : s.heap.get? dx = some o) (r : AttrsIs fs F o) (ha : findIn (Frg X.w) (.ref C) name = some none) (hl : fs.lookup name = some d) (hh : Hand d)
    (h : ∀ v tk, d.is F v → St X H F { s with toks := tk } → Q v { s with toks := tk }) : wpAny X.M A (getAttr (.ref x) name true) Q E s := by
  obtain ⟨v, hv, hr⟩ := r.look.1 d hl
  exact get_value S.kIn (I := (⟨hx, rfl, rfl, hd⟩ : InstAt s.heap x (instObj C dx) C (some o))) K.ga (findObj_own K.dic ha rfl hv) (hh _ _ hr) (h v _ hr S.tok)
theorem ev_at {e : Expr} {name : Str} {d₁ d : D} (he : e = .Attribute (k0 e) name e.pos) (hE : attributeBase (k0 e) name env (eval (k0 e) env) = eval (k0 e) env) (h : Ev X A (eval (k0 e) env) H d₁ H') (g : ∀ F s v, St X H' F s → d₁.is F v → wpAny X.M A (getAttr v name true) (GotV X H' d F) (fun _ _ => False) s) : Ev X A (eval e env) H d H' := .at he fun F s S =>
  Attribute_any_ (h.mono S fun v F₁ s₁ l₁ S₁ r₁ => wpAny_mono (g F₁ s₁ v S₁ r₁) (fun v s' z => z.le l₁) fun _ _ e => e) (by rw [arm_eval_Attribute, hE])
theorem get_attr {C : Addr} {fs : List (Str × D)} {name : Str} {d : D} (K : Cls X C) (ha : findIn (Frg X.w) (.ref C) name = some none) (hl : fs.lookup name = some d) (hh : Hand d) {F : Fz} {s : Shared} {v : Value} (S : St X H F s) (hv : (D.obj C fs).is F v) : wpAny X.M A (getAttr v name true) (GotV X H d F) (fun _ _ => False) s := by
  obtain ⟨x, rfl, I⟩ := hv
  cases I with
  | mk da o f g r => exact attr_of K S (S.frz _ _ f) (S.frz _ _ g) r ha hl hh fun v tk hr S' => ⟨F, .rfl, S', hr⟩
theorem ev_attrS {e : Expr} {name : Str} {C dx : Addr} {fs : List (Str × D)} {d : D} (he : e = .Attribute (k0 e) name e.pos) (hE : attributeBase (k0 e) name env (eval (k0 e) env) = eval (k0 e) env) (h : Ev X A (eval (k0 e) env) H (.self C dx) H') (K : Cls X C) (hm : (dx, P.attrs fs) ∈ H') (ha : findIn (Frg X.w) (.ref C) name = some none) (hl : fs.lookup name = some d) (hh : Hand d) : Ev X A (eval e env) H d H' :=
  ev_at he hE h fun F s v S hv => by
    obtain ⟨x, rfl, f⟩ := hv
    obtain ⟨o, ho, hp⟩ := S.tur _ hm
    exact attr_of K S (S.frz _ _ f) ho hp ha hl hh fun v tk hr S' => ⟨F, .rfl, S', hr⟩
/-- what is called, and who keeps its arguments -/
def Kept (X : Cx) (f : Value) : Prop := (∃ i, f = .builtin i) ∨ (∃ T, f = .type T) ∨ keepIn (Frg X.w) f = true
theorem Kept.looks {f : Value} (k : Kept X f) {h : Heap} (K : (Frg X.w).In h) : ∃ k, (k = Keeper.frame ∨ k = Keeper.machine ∨ k = Keeper.boundFrame) ∧ Looks X.M h (keeperOf f) k := by
  rcases k with ⟨i, rfl⟩ | ⟨T, rfl⟩ | k
  · exact ⟨.machine, .inr (.inl rfl), Looks.of_pure rfl⟩
  · exact ⟨.machine, .inr (.inl rfl), Looks.of_pure rfl⟩
  · exact keeps_K k h K
def CallD (X : Cx) (A : Around) (f : Value) (ds : List D) (H : Hs) (d : D) (H' : Hs) : Prop :=
  ∀ F s vs, St X H F s → RepL F vs ds → wpAny X.M A (call f vs []) (GotV X H' d F) (fun _ _ => False) s
theorem Fn.call {f : Value} {ds : List D} {d : D} (h : Fn X A f ds H d H') : CallD X A f ds H d H' := fun F s vs S r =>
  wpAny_call (codeAny_mono (h F s vs S r) fun r s' z => by cases z with | mk v F' e l S r => cases e; exact ⟨F', l, S, r⟩)
theorem evalArgs_of {M : Model} {E : Value → Shared → Prop} {s : Shared} {f : Value} {Q : Args → Shared → Prop} {trees : List (Bool × Sem Value)} (e : trees.any (·.1) = false) (h : wpAny M A (spliced trees) (fun vs s' => Q ⟨vs, []⟩ s') E s) : wpAny M A (evalArgs f true trees []) Q E s := by
  cases trees with
  | nil =>
    unfold evalArgs
    exact wpAny_bind (m := spliced []) (wpAny_mono h (fun vs s' h' => wpAny_bind (wpAny_pure (wpAny_holding (wpAny_bind (wpAny_pure (wpAny_bind (wpAny_pure (wpAny_pure h')))))))) fun _ _ e => e)
  | cons t r =>
    obtain ⟨b, x⟩ := t
    cases b with
    | true => exact absurd e Bool.false_ne_true.symm
    | false => exact evalArgs_plain h
theorem callWith_d {f : Value} {first : List Value} {trees : List (Bool × Sem Value)} {pos : Pos} {fs ds : List D} {d : D} {F : Fz} {s : Shared} {Q : Value → Shared → Prop} {E : Value → Shared → Prop} (k : Kept X f) (S : St X H F s) (r : RepL F first fs) (hp : trees.any (·.1) = false)
    (ha : Evs X A (spliced trees) H ds H₁) (hc : CallD X A f (fs ++ ds) H₁ d H') (h : ∀ v F' s', Le F F' → St X H' F' s' → d.is F' v → Q v s') : wpAny X.M A (callWith pos f first trees []) Q E s :=
  callWith_of (P := fun hh => (Frg X.w).In hh) (by rw [hp]; rfl) (fun hh K => k.looks K) (evalArgs_of hp (ha.mono S fun vs F₁ s₁ l₁ S₁ r₁ =>
    ⟨S₁.kIn, wpAny_mono (hc F₁ s₁ _ S₁ ((r.mono l₁).append r₁)) (fun v s' ⟨F', a, b, c⟩ => h v F' s' (l₁.trans a) b c) fun _ _ e => e.elim⟩))
def CallE (e : Expr) (env : Env) : Prop := eval e env = (do callWith e.pos (← eval (k0 e) env) [] (backTo e.pos (starEach (kids e).tail env)) (backToKw e.pos (keywordEach [] env)))
theorem call_at {e : Expr} {Q : Value → Shared → Prop} {s : Shared} (hE : CallE e env) (h : wpAny X.M A (eval (k0 e) env) (fun f s₁ => wpAny X.M A (callWith e.pos f [] (backTo e.pos (starEach (kids e).tail env)) []) Q (fun _ _ => False) s₁) (fun _ _ => False) s) : wpAny X.M A (eval e env) Q (fun _ _ => False) s := by
  rw [hE]; exact wpAny_bind h
theorem ev_call {e : Expr} {f : Value} {ds : List D} {d : D} (hE : CallE e env) (h : Ev X A (eval (k0 e) env) H (.val f) H₁) (k : Kept X f) (ha : Argz X A (kids e).tail env H₁ ds H₂) (hc : CallD X A f ds H₂ d H') : Ev X A (eval e env) H d H' := fun F s S =>
  call_at hE (h.mono S fun v F₁ s₁ l₁ S₁ r₁ => by
    cases (r₁ : v = f)
    exact callWith_d (fs := []) k S₁ .nil (ha.1 _) (ha.2 _) hc fun v F' s' a b c => ⟨F', l₁.trans a, b, c⟩)
/-- a method found at an object -/
def MethD (X : Cx) (A : Around) (dO : D) (name : Str) (pl : Sem Bool) (H : Hs) (f : Value) (dS : D) : Prop :=
  ∀ F s v, St X H F s → dO.is F v → wpAny X.M A (getMethod v name pl) (fun fx s' => ∃ self, fx = (f, [self]) ∧ GotV X H dS F self s') (fun _ _ => False) s
def MethE (e : Expr) (name : Str) (pl : Sem Bool) (env : Env) : Prop := eval e env = (do
  let ov ← eval (k0 (k0 e)) env
  standAt (k0 e).pos.atName
  let (f, first) ← holding [ov] (getMethod ov name pl)
  callWith e.pos f first (backTo e.pos (starEach (kids e).tail env)) [])
theorem ev_meth {e : Expr} {name : Str} {pl : Sem Bool} {dO dS : D} {f : Value} {ds : List D} {d : D} (hE : MethE e name pl env) (h : Ev X A (eval (k0 (k0 e)) env) H dO H₁) (hm : MethD X A dO name pl H₁ f dS) (k : Kept X f) (ha : Argz X A (kids e).tail env H₁ ds H₂)
    (hc : CallD X A f (dS :: ds) H₂ d H') : Ev X A (eval e env) H d H' := fun F s S => by
  rw [hE]
  exact wpAny_bind (h.mono S fun v F₁ s₁ l₁ S₁ r₁ => wpAny_bind (wpAny_standAt (wpAny_bind (wpAny_holding (wpAny_mono (hm F₁ s₁ v S₁ r₁) (fun fx s₂ z => by
    obtain ⟨self, rfl, F₂, l₂, S₂, r₂⟩ := z
    exact callWith_d (fs := [dS]) k S₂ (.one r₂) (ha.1 _) (ha.2 _) hc fun v F' s' a b c => ⟨F', (l₁.trans l₂).trans a, b, c⟩) fun _ _ e => e)))))
theorem meth_obj {C f : Addr} {fs : List (Str × D)} {name : Str} {pl : Sem Bool} (K : Cls X C) (hf : findIn (Frg X.w) (.ref C) name = some (some (.ref f))) (ht : typeIn (Frg X.w) (.ref f) = some (.type "function")) (hl : fs.lookup name = none) : MethD X A (.obj C fs) name pl H (.ref f) (.obj C fs) := fun F s v S r => by
  have r' := r
  obtain ⟨x, rfl, I⟩ := r
  cases I with
  | mk da o ff g re =>
    exact method_fn S.kIn (I := (⟨S.frz _ _ ff, rfl, rfl, S.frz _ _ g⟩ : InstAt s.heap x (instObj C da) C (some o))) K.ga K.gt hf ht (by show (lookIn name o).map _ = _; rw [re.look.2 hl]; rfl) ⟨_, rfl, F, .rfl, S, r'⟩
end
end Mine
namespace Mine
section
variable {X : Cx} {A : Around} {env : Env} {H H' H₁ H₂ : Hs}
/-- the frame's places at a call -/
noncomputable def cellHs (bs : List (Str × D)) (cs : List (Str × Addr)) : Hs := cs.map fun q => (q.2, P.cell (bs.lookup q.1))
theorem lookup_bindL {kindOf : Str → Option NameKind} : ∀ {ks : List Str} {vs : List Value} {ds : List D} {F : Fz} {m : Str → Option Value}, ks.Nodup → RepL F vs ds → ∀ {x : Str} {d : D}, (x, d) ∈ ks.zip ds → kindOf x = some .local → ∃ v, bindL kindOf (ks.zip vs) m x = some v ∧ d.is F v := by
  intro ks
  induction ks with
  | nil => intro vs ds F m _ _ x d h; cases h
  | cons k ks ih =>
    intro vs ds F m nd r x d h hk
    cases ds with
    | nil => cases h
    | cons e ds =>
      obtain ⟨v, us, rfl, hv, r'⟩ := r.cons_inv
      rw [List.nodup_cons] at nd
      rcases List.mem_cons.mp h with h | h
      · cases h
        have stay : ∀ {ks : List Str} {us : List Value} {m : Str → Option Value}, k ∉ ks → bindL kindOf (ks.zip us) m k = m k := by
          intro ks
          induction ks with
          | nil => intros; rfl
          | cons k' ks ih2 =>
            intro us m hn
            rw [List.mem_cons, not_or] at hn
            cases us with
            | nil => rfl
            | cons u us =>
              show bindL kindOf (ks.zip us) _ k = _
              rw [ih2 hn.2]
              split
              · exact if_neg hn.1
              · rfl
        refine ⟨v, ?_, hv⟩
        show bindL kindOf (ks.zip us) _ k = _
        rw [stay nd.1, if_pos hk]
        exact if_pos rfl
      · exact ih nd.2 r' h hk
theorem lookup_bindC {kindOf : Str → Option NameKind} {x : Str} (hk : kindOf x ≠ some .local) : ∀ {ks : List Str} {vs : List Value} {ds : List D} {F : Fz} {m : Str → Option Value}, ks.Nodup → RepL F vs ds → (∀ d, (ks.zip ds).lookup x = some d → ∃ v, bindC kindOf (ks.zip vs) m x = some v ∧ d.is F v) ∧ ((ks.zip ds).lookup x = none → bindC kindOf (ks.zip vs) m x = m x) := by
  intro ks
  induction ks with
  | nil =>
    intro vs ds F m _ _
    refine ⟨fun d h => ?_, fun _ => rfl⟩
    cases (h : (none : Option D) = some d)
  | cons k ks ih =>
    intro vs ds F m nd r
    rw [List.nodup_cons] at nd
    cases ds with
    | nil =>
      rw [r.nil_inv]
      refine ⟨fun d h => ?_, fun _ => rfl⟩
      cases (h : (none : Option D) = some d)
    | cons e ds =>
      obtain ⟨v, us, rfl, hv, r'⟩ := r.cons_inv
      have hz : (List.zip (k :: ks) (e :: ds)).lookup x = if x == k then some e else (ks.zip ds).lookup x := by
        show List.lookup x ((k, e) :: ks.zip ds) = _
        rw [List.lookup_cons]
        cases (x == k) <;> rfl
      rw [hz]
      show (∀ d : D, _ → ∃ w, bindC kindOf (ks.zip us) (if kindOf k = some .local then m else fun y => if y = k then some v else m y) x = some w ∧ d.is F w) ∧ (_ → bindC kindOf (ks.zip us) (if kindOf k = some .local then m else fun y => if y = k then some v else m y) x = m x)
      by_cases hx : x = k
      · subst hx
        have hb : (x == x) = true := beq_self_eq_true x
        rw [if_pos hb, if_neg hk]
        have hn : (ks.zip ds).lookup x = none := by
          rw [List.lookup_eq_none_iff]
          intro p hp
          have hp1 := (List.of_mem_zip hp).1
          cases hb2 : (x == p.1) with
          | false => show (!(x == p.1)) = true; rw [hb2]; rfl
          | true => rw [← beq_iff_eq.mp hb2] at hp1; exact absurd hp1 nd.1
        have h2 := (ih (m := fun y => if y = x then some v else m y) nd.2 r').2 hn
        exact ⟨fun d h => by cases h; exact ⟨v, h2.trans (if_pos rfl), hv⟩, fun h => by cases h⟩
      · have hb : (x == k) = false := beq_eq_false_iff_ne.mpr hx
        rw [hb]
        have h2 := ih (m := if kindOf k = some .local then m else fun y => if y = k then some v else m y) nd.2 r'
        refine ⟨h2.1, fun h => (h2.2 h).trans ?_⟩
        split
        · rfl
        · exact if_neg hx
def Ret (d : D) (H' : Hs) (o : Out) (H'' : Hs) : Prop := (o = .ret d ∨ (o = .next ∧ d = .none)) ∧ Wk H'' H'
theorem fn_enter {a c : Addr} {fd : FuncData} {body : List Stmt} {ks : List Str} {ds es : List D} {d : D} (ho : (Frg X.w).lookup a = some { cls := .type "function", data := .func fd }) (hc : (a, c) ∈ csK) (hcode : fd.code = .ref c) (hq : fnQual (Frg X.w) a = some fd.qualname)
    (hroom : A.depth < recursionLimit) (hbody : fd.body = .stmts body) (hclo : fd.closure = [])
    (hbind : ∀ F s vs, St X H F s → RepL F vs ds → ∃ us, RepL F us es ∧ BindsTo s fd ⟨vs, []⟩ (ks.zip us)) (hnd : ks.Nodup) (hlen : ks.length = es.length)
    (hkind : ∀ n, (ks.all fun x => fd.scope.names.lookup x == some .local || (fd.scope.names.lookup x == some .cell && ((cellsFrom n fd.scope.names []).lookup x).isSome)) = true)
    (hcn : ∀ n, ((cellsFrom n fd.scope.names []).map (·.1)).Nodup) (hck : ∀ n, ∀ q ∈ cellsFrom n fd.scope.names [], fd.scope.names.lookup q.1 ≠ some .local)
    {m : List (Str × D)} (hm : (ks.zip es).filter (fun q => fd.scope.names.lookup q.1 == some .local) = m) {cs : Addr → Hs} (hcs : ∀ L, cellHs (ks.zip es) (cellsFrom (L + 1) fd.scope.names []) = cs L)
    (h : ∀ L, Ex X (A.deeper (callEnvC fd L a)) (execs body (callEnvC fd L a)) ((L, .ns m) :: (cs L ++ H)) (Ret d H'))
    (hco : fd.scope.isCoroutine = false) (hgen : fd.scope.isGenerator = false) (hk : fd.scope.kind = .function) : Fn X A (.ref a) ds H d H' := fun F s vs S r => by
  obtain ⟨us, ru, hb⟩ := hbind F s vs S r
  obtain ⟨q, hq', hcd⟩ := X.code _ hc
  rw [hq] at hq'
  cases hq'
  refine codeAny_call_function hroom (S.kIn _ _ ho) rfl hco hgen hbody (hcode ▸ hcd.keeps S.hbk) (hb _ _ _ _ ?_)
  rw [hclo]
  refine wpAny_newFunctionEnv_cells hk (fun x hx => ?_) fun ev he s' Y => ?_
  · have h1 := List.all_eq_true.mp (hkind (s.heap.objs.size + 1)) x.1 (List.of_mem_zip hx).1
    rw [Bool.or_eq_true, Bool.and_eq_true, beq_iff_eq, beq_iff_eq] at h1
    exact h1
  subst he
  obtain ⟨⟨same, ns, keep, fresh⟩, cell, apart, above⟩ := Y
  obtain ⟨h₁, tk, rfl⟩ := same
  obtain ⟨ol, eso, ep, hol, hdl, hks, hfl⟩ := ns
  have hcells : ∀ q ∈ cellsFrom (s.heap.objs.size + 1) fd.scope.names [], ∃ o, h₁.get? q.2 = some o ∧ (P.cell ((ks.zip es).lookup q.1)).is F o := fun q hq => by
    have hl : (cellsFrom (s.heap.objs.size + 1) fd.scope.names []).lookup q.1 = some q.2 := by
      have hn := hcn (s.heap.objs.size + 1)
      revert hq hn
      generalize cellsFrom (s.heap.objs.size + 1) fd.scope.names [] = cs
      intro hq hn
      induction cs with
      | nil => cases hq
      | cons c cs ih =>
        rw [List.map_cons, List.nodup_cons] at hn
        rw [List.lookup_cons]
        rcases List.mem_cons.mp hq with e | hq
        · subst e; rw [beq_self_eq_true]
        · have : (q.1 == c.1) = false := beq_eq_false_iff_ne.mpr fun e => hn.1 (e ▸ List.mem_map_of_mem (f := fun x : Str × Addr => x.1) hq)
          rw [this]; exact ih hq hn.2
    obtain ⟨o, ho, hd⟩ := cell _ _ hl
    have hkn := hck _ q hq
    have hb2 := lookup_bindC (kindOf := (newEnv fd.scope s.heap.objs.size fd.globals (cellsFrom (s.heap.objs.size + 1) fd.scope.names []) (fd.qualname ++ ".<locals>.") (some a) fd.code none fd.builtins).kindOf) (x := q.1) (m := fun _ => none) hkn hnd ru
    refine ⟨o, ho, ?_⟩
    cases hlk : (ks.zip es).lookup q.1 with
    | none => exact .mk _ hd (fun _ => hb2.2 hlk) fun _ e => by cases e
    | some d' => exact .mk _ hd (fun e => by cases e) fun d2 e => by cases e; exact hb2.1 _ hlk
  have S2 := S.fresh (tk := tk) (N := (s.heap.objs.size, .ns m) :: cellHs (ks.zip es) (cellsFrom (s.heap.objs.size + 1) fd.scope.names [])) keep (fun q hq => (List.mem_cons.mp hq).elim (fun e => e ▸ ⟨ol, hol, .mk eso ep hdl hks fun x e hx => by
      rw [hfl]
      have hx2 := mem_of_lookup hx
      rw [← hm, List.mem_filter, beq_iff_eq] at hx2
      exact lookup_bindL hnd ru hx2.1 hx2.2⟩) fun hq => (List.mem_map.mp hq).elim fun p z => z.2 ▸ hcells p z.1) (by
    rw [List.map_cons]
    refine List.nodup_cons.mpr ⟨fun hh => ?_, by unfold cellHs; rw [List.map_map]; exact (List.pairwise_map.mpr apart : List.Pairwise _ _)⟩
    obtain ⟨q, hq, e⟩ := List.mem_map.mp hh
    obtain ⟨p, hp, e'⟩ := List.mem_map.mp hq
    exact Nat.ne_of_gt (above p.1 p.2 hp) ((congrArg (·.1) e').trans e)) fun q hq => (List.mem_cons.mp hq).elim (fun e => e ▸ Nat.le_refl _) fun hq => (List.mem_map.mp hq).elim fun p z => z.2 ▸ Nat.le_of_lt (above p.1 p.2 z.1)
  refine ⟨S2.lim, codeAny_func ?_⟩
  refine (h s.heap.objs.size).mono (hcs _ ▸ S2) fun f F' s' o H'' l S' ho' hR => ?_
  obtain ⟨hR, w⟩ := hR
  rcases hR with rfl | ⟨rfl, rfl⟩
  · obtain ⟨v, rfl, hv⟩ := ho'
    exact ⟨v, F', rfl, l, S'.wk w, hv⟩
  · cases ho'
    exact ⟨.none, F', rfl, l, S'.wk w, rfl⟩
end
end Mine
namespace Mine
theorem St.perm {X : Cx} {H H' : Hs} {F : Fz} {s : Shared} (S : St X H F s) (p : List.Perm H H') : St X H' F s where
  base := S.base
  frz := S.frz
  tur := fun q hq => S.tur q (p.mem_iff.mpr hq)
  nd := (p.map _).nodup_iff.mp S.nd
  sep := fun q hq => S.sep q (p.mem_iff.mpr hq)
  gens := S.gens
  os := S.os
/-- an iterator that hands on these, one by one -/
def Itr (X : Cx) (A : Around) (it : Value) (target : Expr) (I : Nat → Hs) (items : List D) (Z : Hs) : Prop :=
  (∀ j d H F s, items[j]? = some d → St X (I j ++ H) F s → wpAny X.M A (pyNext it) (fun r s' => ∃ v, r = some v ∧ wpAny X.M A (letOwnedTupleGo target it v) (fun _ s'' => GotV X (I (j + 1) ++ H) d F v s'') (fun _ _ => False) s') (fun _ _ => False) s) ∧
  (∀ H F s, St X (I items.length ++ H) F s → wpAny X.M A (pyNext it) (fun r s' => r = none ∧ Got X (Z ++ H) F s') (fun _ _ => False) s) ∧
  (∀ j H F s, St X (I j ++ H) F s → wpAny X.M A (pyIter it) (fun v s' => v = it ∧ St X (I j ++ H) F s') (fun _ _ => False) s)
inductive GotI (X : Cx) (A : Around) (target : Expr) (items : List D) (Z H : Hs) (F : Fz) (it : Value) (s' : Shared) : Prop
  | mk (I : Nat → Hs) (F' : Fz) (W : Itr X A it target I items Z) (l : Le F F') (S : St X (I 0 ++ H) F' s')
theorem GotI.elim {X : Cx} {A : Around} {target : Expr} {items : List D} {Z H : Hs} {F : Fz} {it : Value} {s' : Shared} {p : Prop} (z : GotI X A target items Z H F it s') (k : ∀ I F', Itr X A it target I items Z → Le F F' → St X (I 0 ++ H) F' s' → p) : p := by
  cases z with | mk I F' W l S => exact k I F' W l S
/-- what is run through, when it is d -/
def Src (X : Cx) (A : Around) (d : D) (target : Expr) (items : List D) : Prop :=
  ∀ H F s v, St X H F s → d.is F v → wpAny X.M A (pyIter v) (GotI X A target items [] H F) (fun _ _ => False) s
section
variable {X : Cx} {A : Around} {H : Hs} {F : Fz} {s : Shared}
theorem St.turn {a : Addr} {p q : P} {o : Obj} {h' : Heap} {tk : Nat} (S : St X ((a, p) :: H) F s) (hs : Heap.SameBut a s.heap h') (e : h'.get? a = some o) (hq : q.is F o) : St X ((a, q) :: H) F { s with heap := h', toks := tk } :=
  S.up (.head) (fun b x hb eb => hs.extBut b x hb eb) e hq
theorem St.lose {a : Addr} {p : P} {h' : Heap} {tk : Nat} (S : St X ((a, p) :: H) F s) (hs : Heap.ExtBut a s.heap h') : St X H F { s with heap := h', toks := tk } where
  base := S.base
  frz := fun b o e => hs b o (S.ne (q := (a, p)) List.mem_cons_self e) (S.frz _ _ e)
  tur := fun q hq => (S.tur q (List.mem_cons_of_mem _ hq)).imp fun o h => ⟨hs _ _ (S.head_ne q hq) h.1, h.2⟩
  nd := (S.wk (Wk.skip .rfl)).nd
  sep := fun q hq => S.sep q (List.mem_cons_of_mem _ hq)
  gens := S.gens
  os := S.os
theorem out_of {vs : Array Value} {ds : List D} (r : RepL F vs.toList ds) : vs[ds.length]? = none := by
  rw [← r.1, Array.length_toList]; exact Array.getElem?_eq_none (Nat.le_refl _)
/-- how an iterator of a list or a tuple is drawn from -/
def SeqNx (X : Cx) (A : Around) (T U : String) : Prop :=
  (∀ (it l : Addr) (s : Shared) (i : Nat) (vs : Array Value) (x : Value) (Q : Option Value → Shared → Prop), (∃ o, s.heap.get? it = some o ∧ o.cls = .type U ∧ o.data = .fields #[.ref l, .int i 0]) → (∃ o, s.heap.get? l = some o ∧ o.cls = .type T ∧ ∃ n, o.data = .seq vs n) → vs[i]? = some x →
    (∀ h', (∃ o, h'.get? it = some o ∧ o.cls = .type U ∧ o.data = .fields #[.ref l, .int (i + 1 : Nat) 0]) → Heap.SameBut it s.heap h' → Q (some x) { s with heap := h' }) → wpAny X.M A (pyNext (.ref it)) Q (fun _ _ => False) s) ∧
  (∀ (it l : Addr) (s : Shared) (i : Nat) (vs : Array Value) (Q : Option Value → Shared → Prop), (∃ o, s.heap.get? it = some o ∧ o.cls = .type U ∧ o.data = .fields #[.ref l, .int i 0]) → (∃ o, s.heap.get? l = some o ∧ o.cls = .type T ∧ ∃ n, o.data = .seq vs n) → vs[i]? = none →
    (∀ h', Heap.ExtBut it s.heap h' → Q none { s with heap := h' }) → wpAny X.M A (pyNext (.ref it)) Q (fun _ _ => False) s) ∧
  (∀ (it l : Addr) (s : Shared) (i : Nat) (Q : Value → Shared → Prop), (∃ o, s.heap.get? it = some o ∧ o.cls = .type U ∧ o.data = .fields #[.ref l, .int i 0]) → Q (.ref it) s → wpAny X.M A (pyIter (.ref it)) Q (fun _ _ => False) s)
theorem nx_list (hh : A.handled = none) : SeqNx X A "list" "list_iterator" := ⟨fun _ _ _ _ _ _ _ a b c d => wpAny_pyNext_list_item a b c d, fun _ _ _ _ _ _ a b c d => wpAny_pyNext_list_end hh a b c d, fun _ _ _ _ _ a b => wpAny_pyIter_listiter a b⟩
theorem nx_tuple (hh : A.handled = none) : SeqNx X A "tuple" "tuple_iterator" := ⟨fun _ _ _ _ _ _ _ a b c d => wpAny_pyNext_tuple_item a b c d, fun _ _ _ _ _ _ a b c d => wpAny_pyNext_tuple_end hh a b c d, fun _ _ _ _ _ a b => wpAny_pyIter_tupleiter a b⟩
theorem itr_seq {T U : String} {it l : Addr} {target : Expr} {ds : List D} (N : SeqNx X A T U) (ht : ∀ it v, letOwnedTupleGo target it v = pure ()) : Itr X A (.ref it) target (fun j => [(it, P.seqIt T U l ds j)]) ds [] := by
  refine ⟨?_, ?_, ?_⟩
  · exact fun j d H F s hd S => by
      obtain ⟨o, ho, hp⟩ := S.tur _ List.mem_cons_self
      cases hp with
      | mk vs n c dd f r =>
        obtain ⟨v, hv, hr⟩ := r.get hd
        rw [Array.getElem?_toList] at hv
        exact N.1 _ _ _ _ _ _ _ ⟨o, ho, c, dd⟩ ⟨_, S.frz _ _ f, rfl, n, rfl⟩ hv fun h' hi hs => ⟨v, rfl, by rw [ht]; exact wpAny_pure (hi.elim fun o' z => ⟨F, .rfl, S.turn (tk := s.toks) hs z.1 (.mk vs n z.2.1 z.2.2 f r), hr⟩)⟩
  · exact fun H F s S => by
      obtain ⟨o, ho, hp⟩ := S.tur _ List.mem_cons_self
      cases hp with
      | mk vs n c dd f r => exact N.2.1 _ _ _ _ _ _ ⟨o, ho, c, dd⟩ ⟨_, S.frz _ _ f, rfl, n, rfl⟩ (out_of r) fun h' he => ⟨rfl, F, .rfl, S.lose (tk := s.toks) he⟩
  · exact fun j H F s S => by
      obtain ⟨o, ho, hp⟩ := S.tur _ List.mem_cons_self
      cases hp with
      | mk vs n c dd f r => exact N.2.2 _ _ _ _ _ ⟨o, ho, c, dd⟩ ⟨rfl, S⟩
theorem itr_range {it : Addr} {target : Expr} {x : Int} {n : Nat} (hh : A.handled = none) (ht : ∀ it v, letOwnedTupleGo target it v = pure ()) : Itr X A (.ref it) target (fun j => [(it, P.rngIt x n j)]) (upFrom x n) [] := by
  refine ⟨?_, ?_, ?_⟩
  · exact fun j d H F s hd S => by
      obtain ⟨o, ho, rfl⟩ := S.tur _ List.mem_cons_self
      unfold upFrom at hd
      rw [List.getElem?_map] at hd
      have hj : j < n := by
        by_cases h : j < n
        · exact h
        · rw [List.getElem?_eq_none (by rw [List.length_range]; omega)] at hd; cases hd
      rw [List.getElem?_range hj] at hd
      cases hd
      refine wpAny_pyNext_range_item (hit := ho) (by omega) fun h' hi hs => ⟨_, rfl, ?_⟩
      rw [ht]; refine wpAny_pure ⟨F, .rfl, S.turn hs hi ?_, _, rfl⟩
      show _ = _
      rw [show x + ((j + 1 : Nat) : Int) = x + (j : Int) + 1 by omega, show (n : Int) - ((j + 1 : Nat) : Int) = (n : Int) - (j : Int) - 1 by omega]
  · exact fun H F s S => by
      obtain ⟨o, ho, rfl⟩ := S.tur _ List.mem_cons_self
      refine wpAny_pyNext_range_end hh (hit := ho) ?_ fun h' he => ⟨rfl, F, .rfl, S.lose (tk := s.toks) he⟩
      unfold upFrom
      rw [List.length_map, List.length_range]; omega
  · exact fun j H F s S => by
      obtain ⟨o, ho, rfl⟩ := S.tur _ List.mem_cons_self
      exact wpAny_pyIter_rangeiter (hit := ho) ⟨rfl, S⟩
theorem src_seq {T U : String} {target : Expr} {ds : List D} (N : SeqNx X A T U) (ht : ∀ it v, letOwnedTupleGo target it v = pure ()) (hi : ∀ {l : Addr} {s : Shared} {vs : Array Value} {Q : Value → Shared → Prop}, (∃ o, s.heap.get? l = some o ∧ o.cls = .type T ∧ ∃ n, o.data = .seq vs n) →
    Q (.ref s.heap.objs.size) { s with heap := s.heap.push { cls := .type U, data := .fields #[.ref l, .int 0 0] } } → wpAny X.M A (pyIter (.ref l)) Q (fun _ _ => False) s) : Src X A (.seq T ds) target ds := fun H F s v S hv => by
  obtain ⟨a, rfl, hs⟩ := hv
  cases hs with
  | mk vs n f r => exact hi ⟨_, S.frz _ _ f, rfl, n, rfl⟩ ⟨_, F, itr_seq N ht, .rfl, S.pushH (p := P.seqIt T U a ds 0) _ (.mk vs n rfl rfl f r)⟩
theorem src_list {target : Expr} {ds : List D} (hh : A.handled = none) (h : ∀ it v, letOwnedTupleGo target it v = pure ()) : Src X A (.lst ds) target ds := src_seq (nx_list hh) h fun a b => wpAny_pyIter_list a b
theorem src_tup {target : Expr} {ds : List D} (hh : A.handled = none) (h : ∀ it v, letOwnedTupleGo target it v = pure ()) : Src X A (.tup ds) target ds := src_seq (nx_tuple hh) h fun a b => wpAny_pyIter_tuple a b
/-- range(a, b) -/
noncomputable def D.rng (a b : Int) : D := ⟨fun F v => ∃ r t u w, v = .ref r ∧ F r = some { cls := .type "range", data := .fields #[.int a t, .int b u, .int 1 w] }, fun h ⟨r, t, u, w, e, f⟩ => ⟨r, t, u, w, e, h _ _ f⟩⟩
theorem src_range {target : Expr} {a b : Int} {n : Nat} (hh : A.handled = none) (h : ∀ it v, letOwnedTupleGo target it v = pure ()) (hs : Builtin.Range.small a b 1 = true) (hn : Builtin.Range.rangeSize a b 1 = (n : Int)) : Src X A (.rng a b) target (upFrom a n) := fun H F s v S hv => by
  obtain ⟨r, t, u, w, rfl, f⟩ := hv
  refine wpAny_pyIter_range (hr := S.frz _ _ f) hs ⟨_, F, itr_range hh h, .rfl, S.pushH (p := P.rngIt a n 0) _ ?_⟩
  show _ = _
  rw [hn, show a + ((0 : Nat) : Int) = a by omega, show (n : Int) - ((0 : Nat) : Int) = (n : Int) by omega]
-- enumerate
theorem nextT_item {M : Model} {E : Value → Shared → Prop} {prog : Program} {w : World} {it t : Addr} {i : Nat} {items : Array Value} {x : Value} {Q : Value → Shared → Prop} (hit : s.heap.IsTupleIter it t i) (hl : s.heap.IsTuple t items) (hx : items[i]? = some x)
    (hQ : ∀ h', h'.IsTupleIter it t (i + 1) → Heap.SameBut it s.heap h' → Q x { s with heap := h' }) : wpAny (model prog w) A (Builtin.SmallTypes.nextOf (.ref it)) Q E s := by
  obtain ⟨o, ho, hc, hd⟩ := id hit
  obtain ⟨ol, hol, _, nl, hdl⟩ := hl
  unfold Builtin.SmallTypes.nextOf
  refine wpAny_bind (wpAny_callSpecial?_slot (name := Str.ofString "__next__") hit.typeIs F.slot_tuple_iterator_next (wpAny_call_entry F.slot_tuple_iterator_next hit.typeIs F.entry_tuple_iterator_next ?_ (F.args_tuple_iterator_next_1 _)))
  show wpAny _ _ (field (.ref it) 0 >>= _) _ _ s
  refine wpAny_bind (wpAny_field ho hd (x := .ref t) rfl ?_)
  show wpAny _ _ (if (Value.ref t == Value.none) = true then _ else _) _ _ s
  rw [if_neg (show ¬ ((Value.ref t == Value.none) = true) from Bool.false_ne_true)]
  show wpAny _ _ (field (.ref it) 1 >>= _) _ _ s
  refine wpAny_bind (wpAny_field ho hd (x := .int i 0) rfl ?_)
  show wpAny _ _ (seqItems? (.ref t) >>= _) _ _ s
  refine wpAny_bind (wpAny_seqItems hol hdl ?_)
  dsimp only
  rw [show items[((i : Nat) : Int).toNat]? = some x from hx]
  refine wpAny_bind (wpAny_setField ho hd (Nat.lt_succ_self 1) (wpAny_pure ⟨x, rfl, wpAny_pure (hQ _ ?_ (Heap.SameBut.update ..))⟩))
  exact ⟨_, Heap.get?_update_self _ ho (Obj.isFreed_of_fields (Obj.data_mapFields hd _)), (Obj.cls_mapFields ..).trans hc, by rw [Obj.data_mapFields hd]; simp [rawInt]⟩
theorem nextT_end {E : Value → Shared → Prop} {prog : Program} {w : World} {it t : Addr} {i : Nat} {items : Array Value} {Q : Value → Shared → Prop} (hh : A.handled = none) (hit : s.heap.IsTupleIter it t i) (hl : s.heap.IsTuple t items) (hx : items[i]? = none)
    (hE : ∀ h' e, Heap.ExtBut it s.heap h' → (∃ o, h'.get? e = some o ∧ o.cls = .type "StopIteration") → E (.ref e) { s with heap := h' }) : wpAny (model prog w) A (Builtin.SmallTypes.nextOf (.ref it)) Q E s := by
  obtain ⟨o, ho, hc, hd⟩ := id hit
  obtain ⟨ol, hol, _, nl, hdl⟩ := hl
  unfold Builtin.SmallTypes.nextOf
  refine wpAny_bind (wpAny_callSpecial?_slot (name := Str.ofString "__next__") hit.typeIs F.slot_tuple_iterator_next (wpAny_call_entry F.slot_tuple_iterator_next hit.typeIs F.entry_tuple_iterator_next ?_ (F.args_tuple_iterator_next_1 _)))
  show wpAny _ _ (field (.ref it) 0 >>= _) _ _ s
  refine wpAny_bind (wpAny_field ho hd (x := .ref t) rfl ?_)
  show wpAny _ _ (if (Value.ref t == Value.none) = true then _ else _) _ _ s
  rw [if_neg (show ¬ ((Value.ref t == Value.none) = true) from Bool.false_ne_true)]
  show wpAny _ _ (field (.ref it) 1 >>= _) _ _ s
  refine wpAny_bind (wpAny_field ho hd (x := .int i 0) rfl ?_)
  show wpAny _ _ (seqItems? (.ref t) >>= _) _ _ s
  refine wpAny_bind (wpAny_seqItems hol hdl ?_)
  dsimp only
  rw [show items[((i : Nat) : Int).toNat]? = none from hx]
  refine wpAny_bind (wpAny_rule (wpAny_bind (wpAny_setField ho hd (Nat.succ_pos 1) ?_)))
  show wpAny _ _ (newExc (.type "StopIteration") [] >>= _) _ _ _
  refine wpAny_bind ?_
  unfold newExc newTuple
  refine wpAny_bind (wpAny_newObj_type ?_ (by size_fits))
  refine wpAny_bind (m := firstArgMember _ _) (wpAny_of_eq (a := Value.none) rfl ?_)
  refine wpAny_newObj_type ?_ (by size_fits)
  unfold raiseNew
  refine wpAny_bind (wpAny_handled ?_)
  rw [show A.in1.handled = none from hh]
  refine wpAny_bind (wpAny_pure (wpAny_throw ?_))
  exact hE _ _ (((Heap.SameBut.update ..).extBut.push _).push _) ⟨_, Heap.get?_push_size _ rfl, rfl⟩
theorem draws_tuple {prog : Program} {w : World} (hh : A.handled = none) (it l : Addr) (hne : l ≠ it) (items : Array Value) :
    Draws prog w A it [it, l] items.size (fun i v => items[i]? = some v) (fun i h => h.IsTupleIter it l i ∧ h.IsTuple l items) where
  live := fun _ _ st => st.1.elim fun o h => ⟨o, h.1⟩
  frame := fun _ _ _ st hk => ⟨st.1.imp fun o h => ⟨hk it (by simp) o h.1, h.2⟩, st.2.imp fun o h => ⟨hk l (by simp) o h.1, h.2⟩⟩
  item := fun i s Q E hi st hQ => nextT_item (M := model prog w) st.1 st.2 (x := items[i]) (by simp [hi]) fun h' hit' hs' => hQ _ h' s.toks (by simp [hi]) ⟨hit', st.2.extBut hs'.extBut hne⟩ hs'
  done := fun s Q E st hE => nextT_end hh st.1 st.2 (by simp) hE
/-- a source, evaluated and asked for its iterator -/
def SrcE (X : Cx) (A : Around) (t : Sem Value) (target : Expr) (items : List D) (Z H H' : Hs) : Prop :=
  ∀ F s, St X H F s → wpAny X.M A t (fun v s₁ => wpAny X.M A (pyIter v) (GotI X A target items Z H' F) (fun _ _ => False) s₁) (fun _ _ => False) s
theorem srcE {t : Sem Value} {target : Expr} {items : List D} {d : D} {H' : Hs} (h : Ev X A t H d H') (k : Src X A d target items) : SrcE X A t target items [] H H' := fun F s S =>
  h.mono S fun v F₁ s₁ l₁ S₁ r₁ => wpAny_mono (k _ F₁ s₁ v S₁ r₁) (fun it s' ⟨I, F', a, b, c⟩ => ⟨I, F', a, l₁.trans b, c⟩) fun _ _ e => e
noncomputable def P.idx (l : Addr) (j : Nat) : P := ⟨fun _ o => o.cls = .type "list_iterator" ∧ o.data = .fields #[.ref l, .int j 0], fun _ h => h⟩
theorem itr_turning {it l : Addr} {target : Expr} {ds : List D} (hh : A.handled = none) (ht : ∀ it v, letOwnedTupleGo target it v = pure ()) : Itr X A (.ref it) target (fun j => [(it, P.idx l j), (l, P.lst ds)]) ds [(l, P.lst ds)] := by
  refine ⟨?_, ?_, ?_⟩
  · exact fun j d H F s hd S => by
      obtain ⟨o, ho, c, dd⟩ := S.tur (it, P.idx l j) List.mem_cons_self
      obtain ⟨ol, hol, hp⟩ := S.tur (l, P.lst ds) (List.mem_cons_of_mem _ List.mem_cons_self)
      cases hp with
      | mk vs n e r =>
        subst e
        obtain ⟨v, hv, hr⟩ := r.get hd
        rw [Array.getElem?_toList] at hv
        refine wpAny_pyNext_list_item (hit := ⟨o, ho, c, dd⟩) (hl := ⟨_, hol, rfl, n, rfl⟩) hv fun h' hi hs => ⟨v, rfl, ?_⟩
        obtain ⟨o', ho', c', d'⟩ := hi
        rw [ht]; exact wpAny_pure ⟨F, .rfl, S.turn (tk := s.toks) (q := P.idx l (j + 1)) hs ho' ⟨c', d'⟩, hr⟩
  · exact fun H F s S => by
      obtain ⟨o, ho, c, dd⟩ := S.tur (it, P.idx l ds.length) List.mem_cons_self
      obtain ⟨ol, hol, hp⟩ := S.tur (l, P.lst ds) (List.mem_cons_of_mem _ List.mem_cons_self)
      cases hp with
      | mk vs n e r =>
        subst e
        exact wpAny_pyNext_list_end hh (hit := ⟨o, ho, c, dd⟩) (hl := ⟨_, hol, rfl, n, rfl⟩) (out_of r) fun h' he => ⟨rfl, F, .rfl, S.lose (tk := s.toks) he⟩
  · exact fun j H F s S => by
      obtain ⟨o, ho, c, dd⟩ := S.tur (it, P.idx l j) List.mem_cons_self
      exact wpAny_pyIter_listiter (hit := ⟨o, ho, c, dd⟩) ⟨rfl, S⟩
theorem srcE_turning {t : Sem Value} {target : Expr} {l : Addr} {ds : List D} {H H' H₁ : Hs} (h : Ev X A t H (.ptr l) H₁) (hp : List.Perm H₁ ((l, P.lst ds) :: H')) (hh : A.handled = none) (ht : ∀ it v, letOwnedTupleGo target it v = pure ()) : SrcE X A t target ds [(l, P.lst ds)] H H' := fun F s S =>
  h.mono S fun v F₁ s₁ l₁ S₁ r₁ => by
    cases (r₁ : v = .ref l)
    have S₂ := S₁.perm hp
    obtain ⟨ol, hol, hq⟩ := S₂.tur (l, P.lst ds) List.mem_cons_self
    cases hq with
    | mk vs n e r => subst e; exact wpAny_pyIter_list (hl := ⟨_, hol, rfl, n, rfl⟩) ⟨_, F₁, itr_turning hh ht, l₁, S₂.pushH (p := P.idx l 0) _ ⟨rfl, rfl⟩⟩
noncomputable def enumD (ds : List D) : List D := ds.zipIdx.map fun q => D.tup [.int (q.2 : Int), q.1]
theorem enumD_get {ds : List D} {j : Nat} {e : D} (h : (enumD ds)[j]? = some e) : ∃ d, ds[j]? = some d ∧ e = D.tup [.int (j : Int), d] := by
  unfold enumD at h
  rw [List.getElem?_map, List.getElem?_zipIdx] at h
  cases hd : ds[j]? with
  | none => rw [hd] at h; cases h
  | some d => rw [hd] at h; cases h; exact ⟨d, rfl, by rw [Nat.zero_add]⟩
theorem enumD_length {ds : List D} : (enumD ds).length = ds.length := by unfold enumD; rw [List.length_map, List.length_zipIdx]
theorem let_enum {E : Value → Shared → Prop} {elts : List Expr} {k : Nat} {pos : Pos} {e it a : Addr} {i : Int} {x : Value} {Q : Unit → Shared → Prop} (he : IsEnumOut s.heap e it i x a) (hQ : ∀ h', IsEnum h' e it i x → Heap.SameBut e s.heap h' → Q () { s with heap := h' }) :
    wpAny X.M A (letOwnedTupleGo (.Tuple elts k pos) (.ref e) (.ref a)) Q E s := by
  show wpAny _ _ (load e >>= _) _ _ _
  refine wpAny_bind (wpAny_load he ?_)
  show wpAny _ _ (if ((["enumerate", "zip", "dict_itemiterator", "dict_reverseitemiterator", "odict_iterator", "itertools.zip_longest", "itertools.pairwise"].contains "enumerate" && (some (rawInt a) == some (rawInt a))) = true) then _ else _) _ _ _
  rw [if_pos (by rw [beq_self_eq_true, Bool.and_true]; decide)]
  refine wpAny_bind (wpAny_rule ?_)
  unfold updateField
  refine wpAny_bind (wpAny_load he ?_)
  exact wpAny_update he (hQ _ (Heap.get?_update_self _ he rfl) (Heap.SameBut.update ..))
theorem itr_enum {T U : String} {e it l : Addr} {elts : List Expr} {k : Nat} {pos : Pos} {ds : List D} (hd : ∀ vs : Array Value, l ≠ it → Draws prog X.w A.in1 it [it, l] vs.size (fun i v => vs[i]? = some v) (fun i h => (∃ o, h.get? it = some o ∧ o.cls = .type U ∧ o.data = .fields #[.ref l, .int i 0]) ∧ ∃ o, h.get? l = some o ∧ o.cls = .type T ∧ ∃ n, o.data = .seq vs n)) :
    Itr X A (.ref e) (.Tuple elts k pos) (fun j => [(e, P.enum it j), (it, P.seqIt T U l ds j)]) (enumD ds) [] := by
  refine ⟨?_, ?_, ?_⟩
  · exact fun j d H F s hdj S => by
      obtain ⟨d, hdk, rfl⟩ := enumD_get hdj
      obtain ⟨oe, hoe, old, rfl⟩ := S.tur (e, P.enum it j) List.mem_cons_self
      have mI : (it, P.seqIt T U l ds j) ∈ [(e, P.enum it j), (it, P.seqIt T U l ds j)] ++ H := List.mem_cons_of_mem _ List.mem_cons_self
      have hne : e ≠ it := fun q => S.head_ne _ List.mem_cons_self q.symm
      obtain ⟨o, ho, hp⟩ := S.tur _ mI
      cases hp with
      | mk vs n c dd f r =>
        obtain ⟨v, hv, hr⟩ := r.get hdk
        rw [Array.getElem?_toList] at hv
        have hli : l ≠ it := S.ne mI f
        have hle : l ≠ e := S.ne (q := (e, P.enum it j)) List.mem_cons_self f
        refine wpAny_pyNext_enum_itemD (hd vs hli) hoe ⟨⟨o, ho, c, dd⟩, _, S.frz _ _ f, rfl, n, rfl⟩ (Array.getElem?_eq_some_iff.mp hv).1 hne (by simp only [List.mem_cons, List.not_mem_nil, or_false, not_or]; exact ⟨hne, Ne.symm hle⟩) fun x h' tk hx hout hst htup hz hk => ⟨_, rfl, ?_⟩
        rw [hv] at hx; cases hx
        obtain ⟨⟨oi, hoi, ci, di⟩, -⟩ := hst
        refine let_enum hout fun h2 he2 hs2 => ?_
        have k2 : ∀ b o, b ≠ e → b ≠ it → s.heap.get? b = some o → h2.get? b = some o := fun b o h1 h3 h4 => hs2.extBut b o h1 (hk b o h1 h3 h4)
        have hel : e < s.heap.objs.size := Heap.lt_size hoe
        have S2 : St X ([(e, P.enum it (j + 1)), (it, P.seqIt T U l ds (j + 1))] ++ H) F { s with heap := h2, toks := tk + 1 } := by
          refine ⟨S.base, fun b o eb => k2 b o (S.ne (q := (e, P.enum it j)) List.mem_cons_self eb) (S.ne mI eb) (S.frz _ _ eb), fun q hq => ?_, S.nd, fun q hq => ?_, S.gens, S.os⟩
          · rcases List.mem_cons.mp hq with rfl | hq
            · exact ⟨_, he2, v, by rw [show ((j + 1 : Nat) : Int) = (j : Int) + 1 by omega]⟩
            · rcases List.mem_cons.mp hq with rfl | hq
              · exact ⟨oi, hs2.extBut it oi (Ne.symm hne) hoi, .mk vs n ci di f r⟩
              · have hq' : q ∈ [(e, P.enum it j), (it, P.seqIt T U l ds j)] ++ H := List.mem_cons_of_mem _ (List.mem_cons_of_mem _ hq)
                exact (S.tur q hq').imp fun o h => ⟨k2 _ _ (S.head_ne q (List.mem_cons_of_mem _ hq)) ((S.wk (.skip .rfl)).head_ne q hq) h.1, h.2⟩
          · rcases List.mem_cons.mp hq with rfl | hq
            · exact (S.sep (e, P.enum it j) List.mem_cons_self : F e = none)
            · rcases List.mem_cons.mp hq with rfl | hq
              · exact (S.sep _ mI : F it = none)
              · exact S.sep q (List.mem_cons_of_mem _ (List.mem_cons_of_mem _ hq))
        have le := Fz.put_le (o := { cls := .type "tuple", data := .seq #[.int (j : Int) tk, v] }) S.new
        refine ⟨F.put s.heap.objs.size _, le, S2.grow le fun b o eb => ?_, _, rfl, .mk _ _ Fz.put_at (.cons ⟨_, rfl⟩ (.one (d.mono le hr)))⟩
        rcases Fz.put_of eb with ⟨rfl, rfl⟩ | eb
        · refine .inr ⟨hs2.extBut _ _ (Nat.ne_of_gt hel) htup, fun q hq ee => ?_⟩
          rcases List.mem_cons.mp hq with rfl | hq
          · exact Nat.ne_of_lt hel ee
          · rcases List.mem_cons.mp hq with rfl | hq
            · exact Nat.ne_of_lt (S.mlt mI) ee
            · exact Nat.ne_of_lt (S.mlt (List.mem_cons_of_mem _ (List.mem_cons_of_mem _ hq))) ee
        · exact .inl eb
  · exact fun H F s S => by
      rw [enumD_length] at S
      obtain ⟨oe, hoe, old, rfl⟩ := S.tur (e, P.enum it _) List.mem_cons_self
      have mI : (it, P.seqIt T U l ds ds.length) ∈ [(e, P.enum it ds.length), (it, P.seqIt T U l ds ds.length)] ++ H := List.mem_cons_of_mem _ List.mem_cons_self
      obtain ⟨o, ho, hp⟩ := S.tur _ mI
      cases hp with
      | mk vs n c dd f r =>
        have hz : vs.size = ds.length := by rw [← r.1, Array.length_toList]
        exact wpAny_pyNext_enum_endD (hd vs (S.ne mI f)) hoe (by rw [hz]; exact ⟨⟨o, ho, c, dd⟩, _, S.frz _ _ f, rfl, n, rfl⟩) fun h' he => ⟨rfl, F, .rfl, (S.wk (.skip .rfl)).lose (tk := s.toks) he⟩
  · exact fun j H F s S => by
      obtain ⟨oe, hoe, old, rfl⟩ := S.tur (e, P.enum it j) List.mem_cons_self
      exact wpAny_pyIter_enum hoe ⟨rfl, S⟩
theorem called_through {M : Model} {E : Value → Shared → Prop} {cls : Value} {Q : Bool → Shared → Prop} (h : ∀ b, Q b s) : wpAny M A (Builtin.SmallTypes.calledThroughType cls) Q E s := by
  unfold Builtin.SmallTypes.calledThroughType
  exact wpAny_bind (wpAny_stack_any fun st => wpAny_pure (h _))
theorem meets_enum_tuple (l : Addr) (items : Array Value) (n : Nat) (dct : Option Addr) (sl : Array (Option Value)) :
    Meets (Builtin.«enumerate.__new__» ⟨[.type "enumerate", .ref l], []⟩) (fun _ R s => s.heap.get? l = some { cls := .type "tuple", dict := dct, data := .seq items n, slots := sl } ∧
      R (.ok (.ret (.ref (s.heap.push { cls := .type "tuple_iterator", data := .fields #[.ref l, .int 0 0] }).objs.size)))
        { s with heap := (s.heap.push { cls := .type "tuple_iterator", data := .fields #[.ref l, .int 0 0] }).push { cls := .type "enumerate", data := .fields #[.none, .bool false, .ref s.heap.objs.size, rawInt 0, .none, .none] } }) :=
  .of_wp fun prog w A R s h => by
    obtain ⟨hp, g, d, tk, os⟩ := s; obtain ⟨hl, h⟩ := h
    have hsub := sub_enumerate
    have hL : Heap.IsTuple (Shared.heap ⟨hp, g, d, tk, os⟩) l items := ⟨_, hl, rfl, n, rfl⟩
    wp_walk using AutoSeq1.wpAny_loadPart' hl, called_through
    intro b
    cases b
    · wp_walk using AutoSeq1.wpAny_loadPart' hl, wpAny_pyIter_tuple hL
      exact ⟨_, rfl, h⟩
    · wp_walk using AutoSeq1.wpAny_loadPart' hl, wpAny_pyIter_tuple hL
      exact ⟨_, rfl, h⟩
theorem call_enum_tuple {E : Value → Shared → Prop} {l : Addr} {items : Array Value} {Q : Value → Shared → Prop} (hL : s.heap.IsTuple l items)
    (h : ∀ h', IsEnum h' (s.heap.objs.size + 1) s.heap.objs.size 0 .none → h'.IsTupleIter s.heap.objs.size l 0 → (∀ b o, s.heap.get? b = some o → h'.get? b = some o) → Q (.ref (s.heap.objs.size + 1)) { s with heap := h' }) :
    wpAny X.M A (call (.type "enumerate") [.ref l]) Q E s := by
  obtain ⟨⟨c, dct, dt, sl⟩, hl, hc, n, hd⟩ := hL
  replace hc : c = .type "tuple" := hc
  replace hd : dt = .seq items n := hd
  subst hc hd
  refine callType_new F.called_enumerate (by decide) (F.typeCall_enumerate_1 _) (F.newCall_enumerate_1 _) (fun obj => F.args_object_init_2 obj _) F.entry_enumerate_new (meets_enum_tuple l items n dct sl) ⟨hl, ?_⟩
  have hz : (s.heap.push { cls := .type "tuple_iterator", data := .fields #[.ref l, .int 0 0] }).objs.size = s.heap.objs.size + 1 := Heap.size_push ..
  show _ ∧ _
  rw [hz]
  have he : IsEnum ((s.heap.push { cls := .type "tuple_iterator", data := .fields #[.ref l, .int 0 0] }).push { cls := .type "enumerate", data := .fields #[.none, .bool false, .ref s.heap.objs.size, rawInt 0, .none, .none] }) (s.heap.objs.size + 1) s.heap.objs.size 0 .none := by
    have := Heap.get?_push_size (s.heap.push { cls := .type "tuple_iterator", data := .fields #[.ref l, .int 0 0] }) (o := { cls := .type "enumerate", data := .fields #[.none, .bool false, .ref s.heap.objs.size, rawInt 0, .none, .none] }) rfl
    rw [hz] at this; exact this
  exact ⟨⟨_, he, rfl⟩, h _ he ⟨_, Heap.get?_push_of_some _ (Heap.get?_push_size _ rfl), rfl, rfl⟩ fun b o x => Heap.get?_push_of_some _ (Heap.get?_push_of_some _ x)⟩
theorem enum_new {T U : String} {l : Addr} {vs : Array Value} {n : Nat} {ds : List D} {elts : List Expr} {k : Nat} {pos : Pos} (f : F l = some { cls := .type T, data := .seq vs n }) (r : RepL F vs.toList ds) (S : St X H F s)
    (hd : ∀ (vs : Array Value) it, l ≠ it → Draws prog X.w A.in1 it [it, l] vs.size (fun i v => vs[i]? = some v) (fun i h => (∃ o, h.get? it = some o ∧ o.cls = .type U ∧ o.data = .fields #[.ref l, .int i 0]) ∧ ∃ o, h.get? l = some o ∧ o.cls = .type T ∧ ∃ n, o.data = .seq vs n))
    {h' : Heap} (he : IsEnum h' (s.heap.objs.size + 1) s.heap.objs.size 0 .none) (hi : ∃ o, h'.get? s.heap.objs.size = some o ∧ o.cls = .type U ∧ o.data = .fields #[.ref l, .int (0 : Nat) 0]) (hk : ∀ b o, s.heap.get? b = some o → h'.get? b = some o) :
    wpAny X.M A (pyIter (.ref (s.heap.objs.size + 1))) (GotI X A (.Tuple elts k pos) (enumD ds) [] H F) (fun _ _ => False) { s with heap := h' } := by
  refine wpAny_pyIter_enum he ⟨_, F, itr_enum (T := T) (U := U) (l := l) (it := s.heap.objs.size) fun vs hne => hd vs _ hne, .rfl, ?_⟩
  obtain ⟨oi, hoi, ci, di⟩ := hi
  have S1 := S.more (tk := s.toks) (p := P.seqIt T U l ds 0) hk hoi (Nat.le_refl _) (.mk vs n ci di f r)
  refine ⟨S1.base, S1.frz, fun q hq => ?_, ?_, fun q hq => ?_, S1.gens, S1.os⟩
  · rcases List.mem_cons.mp hq with rfl | hq
    · exact ⟨_, he, .none, rfl⟩
    · exact S1.tur q hq
  · show (List.map (·.1) ((s.heap.objs.size + 1, P.enum s.heap.objs.size 0) :: (s.heap.objs.size, _) :: H)).Nodup
    rw [List.map_cons, List.nodup_cons]
    refine ⟨fun hm => ?_, S1.nd⟩
    obtain ⟨q, hq, e⟩ := List.mem_map.mp hm
    rcases List.mem_cons.mp hq with rfl | hq
    · exact Nat.ne_of_lt (Nat.lt_succ_self _) e
    · exact Nat.ne_of_lt (Nat.lt_succ_of_lt (S.mlt hq)) e
  · rcases List.mem_cons.mp hq with rfl | hq
    · show F (s.heap.objs.size + 1) = none
      cases e2 : F (s.heap.objs.size + 1) with
      | none => rfl
      | some o => exact absurd (S.lt e2) (Nat.not_lt.mpr (Nat.le_succ _))
    · exact S1.sep q hq
theorem srcE_enum {T U : String} {env : Env} {e target : Expr} {ds : List D} {k : Nat} {H' : Hs} (ht : target = .Tuple (kids target) k target.pos) (hE : CallE e env) (hn : Ev X A (eval (k0 e) env) H (.val (.type "enumerate")) H) (h : Argz X A (kids e).tail env H [.seq T ds] H')
    (hd : ∀ (l : Addr) (vs : Array Value) it, l ≠ it → Draws prog X.w A.in1 it [it, l] vs.size (fun i v => vs[i]? = some v) (fun i h => (∃ o, h.get? it = some o ∧ o.cls = .type U ∧ o.data = .fields #[.ref l, .int i 0]) ∧ ∃ o, h.get? l = some o ∧ o.cls = .type T ∧ ∃ n, o.data = .seq vs n))
    (hc : ∀ {l : Addr} {s : Shared} {vs : Array Value} {Q : Value → Shared → Prop}, (∃ o, s.heap.get? l = some o ∧ o.cls = .type T ∧ ∃ n, o.data = .seq vs n) → (∀ h', IsEnum h' (s.heap.objs.size + 1) s.heap.objs.size 0 .none → (∃ o, h'.get? s.heap.objs.size = some o ∧ o.cls = .type U ∧ o.data = .fields #[.ref l, .int (0 : Nat) 0]) → (∀ b o, s.heap.get? b = some o → h'.get? b = some o) → Q (.ref (s.heap.objs.size + 1)) { s with heap := h' }) → wpAny X.M A (call (.type "enumerate") [.ref l]) Q (fun _ _ => False) s) : SrcE X A (eval e env) target (enumD ds) [] H H' := fun F s S => by
  rw [ht]
  exact call_at hE (hn.mono S fun v F₀ s₀ l₀ S₀ r₀ => by
    cases (r₀ : v = .type "enumerate")
    refine PyProof.Rows.callWith_type (by rw [h.1]) (evalArgs_of (h.1 _) ((h.2 _).mono S₀ fun vs F₁ s₁ l₁ S₁ r₁ => ?_))
    obtain ⟨v, us, rfl, hv, r2⟩ := r₁.cons_inv
    cases r2.nil_inv
    obtain ⟨a, rfl, hs⟩ := hv
    cases hs with
    | mk vs n f r => exact hc ⟨_, S₁.frz _ _ f, rfl, n, rfl⟩ fun h' he hi hk => wpAny_mono (enum_new f r S₁ (fun vs it hne => hd a vs it hne) he hi hk) (fun it s' z => z.elim fun I F' x y z => ⟨I, F', x, (l₀.trans l₁).trans y, z⟩) fun _ _ e => e)
theorem srcE_enum_list {env : Env} {e target : Expr} {ds : List D} {k : Nat} {H' : Hs} (hh : A.handled = none) (ht : target = .Tuple (kids target) k target.pos) (hE : CallE e env) (hn : Ev X A (eval (k0 e) env) H (.val (.type "enumerate")) H) (h : Argz X A (kids e).tail env H [.lst ds] H') : SrcE X A (eval e env) target (enumD ds) [] H H' :=
  srcE_enum ht hE hn h (fun a vs it hne => Draws.list (A := A.in1) hh it a hne vs) fun a b => call_enumerate_list (hL := a) fun h' x y _ z => b h' x y z
theorem srcE_enum_tuple {env : Env} {e target : Expr} {ds : List D} {k : Nat} {H' : Hs} (hh : A.handled = none) (ht : target = .Tuple (kids target) k target.pos) (hE : CallE e env) (hn : Ev X A (eval (k0 e) env) H (.val (.type "enumerate")) H) (h : Argz X A (kids e).tail env H [.tup ds] H') : SrcE X A (eval e env) target (enumD ds) [] H H' :=
  srcE_enum ht hE hn h (fun a vs it hne => draws_tuple (A := A.in1) hh it a hne vs) fun a b => call_enum_tuple (hL := a) fun h' x y z => b h' x y z
end
end Mine
namespace Mine
/-- a state is also that one -/
def Stp (X : Cx) (H H' : Hs) : Prop := ∀ F s, St X H F s → Got X H' F s
section
variable {X : Cx} {A : Around} {env : Env} {H H' H₁ H₂ K : Hs} {R : Out → Hs → Prop}
theorem Stp.wk (w : Wk H H') : Stp X H H' := fun F s S => ⟨F, .rfl, S.wk w⟩
theorem Stp.perm (p : List.Perm H H') : Stp X H H' := fun F s S => ⟨F, .rfl, S.perm p⟩
theorem Stp.trans (x : Stp X H H₁) (y : Stp X H₁ H') : Stp X H H' := fun F s S => by
  obtain ⟨F₁, l₁, S₁⟩ := x F s S
  obtain ⟨F₂, l₂, S₂⟩ := y F₁ s S₁
  exact ⟨F₂, l₁.trans l₂, S₂⟩
theorem Ex.step {t : Sem Flow} (x : Stp X H H') (h : Ex X A t H' R) : Ex X A t H R := fun F s S => by
  obtain ⟨F₁, l₁, S₁⟩ := x F s S
  exact h.mono S₁ fun f F' s' o H'' a b c d => ⟨F', H'', o, l₁.trans a, b, c, d⟩
theorem Ex.weak {t : Sem Flow} {R' : Out → Hs → Prop} (h : Ex X A t H R) (k : ∀ o H', R o H' → R' o H') : Ex X A t H R' := fun F s S =>
  h.mono S fun f F' s' o H'' a b c d => ⟨F', H'', o, a, b, c, k _ _ d⟩
theorem Ev.step {t : Sem Value} {d : D} (x : Stp X H H₁) (h : Ev X A t H₁ d H') : Ev X A t H d H' := fun F s S => by
  obtain ⟨F₁, l₁, S₁⟩ := x F s S
  exact h.mono S₁ fun v F' s' a b c => ⟨F', l₁.trans a, b, c⟩
theorem Ev.post {t : Sem Value} {d : D} (h : Ev X A t H d H₁) (x : Stp X H₁ H') : Ev X A t H d H' := fun F s S =>
  h.mono S fun v F₁ s₁ l₁ S₁ r₁ => by
    obtain ⟨F₂, l₂, S₂⟩ := x F₁ s₁ S₁
    exact ⟨F₂, l₁.trans l₂, S₂, d.mono l₂ r₁⟩
theorem Ev.as {t : Sem Value} {d d' : D} (h : Ev X A t H d H') (e : d = d') : Ev X A t H d' H' := e ▸ h
/-- an answer that is told with its state -/
inductive GotQ (X : Cx) (Q : D → Hs → Prop) (F : Fz) (v : Value) (s' : Shared) : Prop
  | mk (F' : Fz) (d : D) (H' : Hs) (l : Le F F') (S : St X H' F' s') (r : d.is F' v) (q : Q d H')
def EvQ (X : Cx) (A : Around) (t : Sem Value) (H : Hs) (Q : D → Hs → Prop) : Prop :=
  ∀ F s, St X H F s → wpAny X.M A t (GotQ X Q F) (fun _ _ => False) s
theorem Ev.q {t : Sem Value} {d : D} {Q : D → Hs → Prop} (h : Ev X A t H d H') (q : Q d H') : EvQ X A t H Q := fun F s S =>
  h.mono S fun v F' s' a b c => ⟨F', d, H', a, b, c, q⟩
theorem EvQ.ev {t : Sem Value} {d : D} {Q : D → Hs → Prop} (h : EvQ X A t H Q) (q : ∀ e K, Q e K → e = d ∧ K = H') : Ev X A t H d H' := fun F s S =>
  wpAny_mono (h F s S) (fun v s' ⟨F', e, K, a, b, c, z⟩ => by obtain ⟨rfl, rfl⟩ := q e K z; exact ⟨F', a, b, c⟩) fun _ _ e => e
-- targets
def Asg (X : Cx) (A : Around) (env : Env) (target : Expr) (d : D) (H H' : Hs) : Prop :=
  ∀ F s v, St X H F s → d.is F v → wpAny X.M A (assign target env v) (fun _ => Got X H' F) (fun _ _ => False) s
def Bnd (X : Cx) (A : Around) (env : Env) (x : Str) (d : D) (H H' : Hs) : Prop :=
  ∀ F s v, St X H F s → d.is F v → wpAny X.M A (bindName env x v) (fun _ => Got X H' F) (fun _ _ => False) s
theorem Bnd.asg {x : Str} {d : D} {e : Expr} (he : e = .Name x e.pos) (b : Bnd X A env x d H H') : Asg X A env e d H H' := fun F s v S hv => by
  rw [he, PySem.assign_Name]; exact wpAny_bind (wpAny_standAt (b F s v S hv))
noncomputable def stoB (env : Env) (x : Str) : Bool := env.kindOf x == some .local && !(env.scope.kind == .class || (env.scope.kind == .module && env.locals != env.globals))
theorem store_local {x : Str} {d : D} {m : List (Str × D)} {F : Fz} {s : Shared} {v : Value} {Q : Unit → Shared → Prop} {E : Value → Shared → Prop} (S : St X H F s) (hv : d.is F v) (hl : env.kindOf x = some .local) (hm : (env.locals, P.ns m) ∈ H) (u : Up env.locals (.ns ((x, d) :: m)) H H')
    (hp : (env.scope.kind == .class || (env.scope.kind == .module && env.locals != env.globals)) = false) (h : ∀ s', St X H' F s' → Q () s') : wpAny X.M A (storeName env x v) Q E s := by
  obtain ⟨o, ho, hq⟩ := S.tur _ hm
  cases hq with
  | mk es ep e k r =>
    refine wpAny_storeName_local hl (m := nsFind es) ⟨o, es, ep, ho, e, k, fun _ => rfl⟩ (fun h' hn hs => h _ ?_) hp
    obtain ⟨o', es', ep', ho', hd', hk', hf'⟩ := hn
    refine S.up u (fun b q hb eb => hs.extBut b q hb eb) ho' (.mk es' ep' hd' hk' fun y d' hy => ?_)
    rw [hf']
    rw [List.lookup_cons] at hy
    by_cases hxy : y = x
    · subst hxy
      rw [beq_self_eq_true] at hy
      cases hy
      exact ⟨v, if_pos rfl, hv⟩
    · rw [beq_eq_false_iff_ne.mpr hxy] at hy
      exact (r _ _ hy).imp fun u z => ⟨(if_neg hxy).trans z.1, z.2⟩
theorem bnd_local {x : Str} {d : D} {m : List (Str × D)} (hb : stoB env x = true) (hm : (env.locals, P.ns m) ∈ H) (u : Up env.locals (.ns ((x, d) :: m)) H H') : Bnd X A env x d H H' := fun F s v S hv => by
  unfold stoB at hb
  rw [Bool.and_eq_true, Bool.not_eq_true', beq_iff_eq] at hb
  exact wpAny_bindName (store_local S hv hb.1 hm u hb.2 fun s' S' => ⟨F, .rfl, S'⟩)
theorem store_cell {x : Str} {d : D} {c : Addr} {o₀ : Option D} {F : Fz} {s : Shared} {v : Value} {Q : Unit → Shared → Prop} {E : Value → Shared → Prop} (S : St X H F s) (hv : d.is F v) (hk : env.scope.kind = .function) (hl : env.kindOf x = some .cell) (hc : env.cells.lookup x = some c) (hm : (c, P.cell o₀) ∈ H) (u : Up c (.cell (some d)) H H')
    (h : ∀ s', St X H' F s' → Q () s') : wpAny X.M A (storeName env x v) Q E s := by
  obtain ⟨o, ho, hq⟩ := S.tur _ hm
  cases hq with
  | mk v₀ e n r =>
    refine wpAny_storeName_cell hk hl hc ⟨o, ho, e⟩ fun h' hn hs => h _ ?_
    obtain ⟨o', ho', hd'⟩ := hn
    exact S.up (tk := s.toks) u (fun b q hb eb => hs.extBut b q hb eb) ho' (.mk _ hd' (fun e => by cases e) fun d' e => by cases e; exact ⟨v, rfl, hv⟩)
theorem bnd_cell {x : Str} {d : D} {c : Addr} {o₀ : Option D} (hb : (env.scope.kind == .function && env.kindOf x == some .cell) = true) (hc : env.cells.lookup x = some c) (hm : (c, P.cell o₀) ∈ H) (u : Up c (.cell (some d)) H H') : Bnd X A env x d H H' := fun F s v S hv => by
  rw [Bool.and_eq_true, beq_iff_eq, beq_iff_eq] at hb
  exact wpAny_bindName (store_cell S hv hb.1 hb.2 hc hm u fun s' S' => ⟨F, .rfl, S'⟩)
theorem asg_pair {e : Expr} {k : Nat} {d₁ d₂ : D} (hh : A.handled = none) (ht : e = .Tuple [k0 e, k1 e] k e.pos) (he : assignEach [k0 e, k1 e] env = [(false, assign (k0 e) env), (false, assign (k1 e) env)]) (a : Asg X A env (k0 e) d₁ H H₁) (b : Asg X A env (k1 e) d₂ H₁ H') : Asg X A env e (.tup [d₁, d₂]) H H' := fun F s v S hv => by
  rw [ht]
  generalize k0 e = t₁ at he a
  generalize k1 e = t₂ at he b
  obtain ⟨x, rfl, I⟩ := hv
  cases I with
  | mk vs n f r =>
    obtain ⟨v₁, us, e₁, r₁, r'⟩ := r.cons_inv
    obtain ⟨v₂, us', rfl, r₂, r''⟩ := r'.cons_inv
    cases r''.nil_inv
    refine wpAny_assign_Tuple hh ⟨_, S.frz _ _ f, rfl, n, rfl⟩ (by rw [he, ← Array.length_toList, e₁]; rfl) (by rw [he]; rfl) fun h' ex => ?_
    rw [he, e₁]
    have S' := S.keeps (h' := h') (tk := s.toks) fun b q eb => ex b q (Nat.ne_of_lt (Heap.lt_size eb)) eb
    refine wpAny_bind (wpAny_holding (wpAny_mono (a F _ v₁ S' r₁) (fun _ s₁ ⟨F₁, l₁, S₁⟩ => ?_) fun _ _ e => e))
    refine wpAny_bind (wpAny_holding (wpAny_mono (b F₁ _ v₂ S₁ (d₂.mono l₁ r₂)) (fun _ s₂ ⟨F₂, l₂, S₂⟩ => ?_) fun _ _ e => e))
    exact wpAny_pure ⟨F₂, l₁.trans l₂, S₂⟩
-- blocks
theorem ex_nil (h : R .next H) : Ex X A (execs [] env) H R := fun F s S => wpAny_execs_nil ⟨F, H, .next, .rfl, S, rfl, h⟩
theorem Ex.ss {ss ss' : List Stmt} (he : ss = ss') (h : Ex X A (execs ss' env) H R) : Ex X A (execs ss env) H R := he ▸ h
def Thn (X : Cx) (A : Around) (env : Env) (rest : List Stmt) (R : Out → Hs → Prop) (o : Out) (H : Hs) : Prop := (o = .next → Ex X A (execs rest env) H R) ∧ (o ≠ .next → R o H)
theorem ex_cons {st : Stmt} {rest : List Stmt} (h : Ex X A (exec st env) H (Thn X A env rest R)) : Ex X A (execs (st :: rest) env) H R := fun F s S =>
  wpAny_execs_cons (h.mono S fun f F₁ s₁ o H₁ l₁ S₁ q z => by
    cases o with
    | next => cases q; exact (z.1 rfl).mono S₁ fun f F' s' o H' a b c d => ⟨F', H', o, l₁.trans a, b, c, d⟩
    | brk => cases q; exact ⟨F₁, H₁, .brk, l₁, S₁, rfl, z.2 (by intro e; cases e)⟩
    | cont => cases q; exact ⟨F₁, H₁, .cont, l₁, S₁, rfl, z.2 (by intro e; cases e)⟩
    | ret d => obtain ⟨v, rfl, hv⟩ := q; exact ⟨F₁, H₁, .ret d, l₁, S₁, ⟨v, rfl, hv⟩, z.2 (by intro e; cases e)⟩)
theorem thn {rest : List Stmt} (h : Ex X A (execs rest env) H R) : Thn X A env rest R .next H := ⟨fun _ => h, fun e => absurd rfl e⟩
variable {ss : List Stmt}
theorem ex_end (he : ss = []) (h : R .next H) : Ex X A (execs ss env) H R := .ss he (ex_nil h)
theorem ex_ret {d : D} (he : ss = .Return (some (z0 ss)) (posS ss) :: ss.tail) (h : Ev X A (eval (z0 ss) env) H d H') (k : R (.ret d) H') : Ex X A (execs ss env) H R := .ss he (ex_cons fun F s S =>
  wpAny_Return_some (h.mono S fun v F₁ s₁ l₁ S₁ r₁ => ⟨F₁, H', .ret d, l₁, S₁, ⟨v, rfl, r₁⟩, (fun e => by cases e), fun _ => k⟩))
theorem ex_continue (he : ss = .Continue (posS ss) :: ss.tail) (k : R .cont H) : Ex X A (execs ss env) H R := .ss he (ex_cons fun F s S =>
  wpAny_Continue ⟨F, H, .cont, .rfl, S, rfl, (fun e => by cases e), fun _ => k⟩)
theorem ex_expr {d : D} (he : ss = .Expr (z0 ss) (posS ss) :: ss.tail) (h : Ev X A (eval (z0 ss) env) H d H') (hi : interactive env = false) (hs : swapsWith (z0 ss) none (posS ss).line env = pure false) (k : Ex X A (execs ss.tail env) H' R) : Ex X A (execs ss env) H R := .ss he (ex_cons fun F s S =>
  wpAny_Expr_any (h.mono S fun v F₁ s₁ l₁ S₁ r₁ => ⟨F₁, H', .next, l₁, S₁, rfl, thn k⟩) hi hs)
theorem ex_if {b : Bool} (he : ss = .If (z0 ss) (bodyS ss) (elseS ss) (posS ss) :: ss.tail) (h : Tests X A (z0 ss) env H b H₁) (ht : b = true → Ex X A (execs (bodyS ss) env) H₁ (Thn X A env ss.tail R)) (hf : b = false → Ex X A (execs (elseS ss) env) H₁ (Thn X A env ss.tail R)) : Ex X A (execs ss env) H R := .ss he (ex_cons fun F s S =>
  wpAny_If ((h _ rfl).mono S fun F₁ s₁ l₁ S₁ => by
    cases b with
    | true => exact (ht rfl).mono S₁ fun f F' s' o H' a b c d => ⟨F', H', o, l₁.trans a, b, c, d⟩
    | false => exact (hf rfl).mono S₁ fun f F' s' o H' a b c d => ⟨F', H', o, l₁.trans a, b, c, d⟩))
theorem ex_assignQ {x : Str} {Q : D → Hs → Prop} (he : ss = .Assign [.Name x (z1 ss).pos] (z0 ss) (posS ss) :: ss.tail) (h : EvQ X A (eval (z0 ss) env) H Q) (hs : swapsWith (z0 ss) (some (.Name x (z1 ss).pos)) (posS ss).line env = pure false) (k : ∀ d H₁, Q d H₁ → ∃ H₂, Bnd X A env x d H₁ H₂ ∧ Ex X A (execs ss.tail env) H₂ R) : Ex X A (execs ss env) H R := .ss he (ex_cons fun F s S => by
  rw [exec_Assign_Name env _ _ _ _ hs]
  refine wpAny_bind (wpAny_standAt (wpAny_bind (wpAny_mono (h F s S) (fun v s₁ z => ?_) fun _ _ e => e)))
  obtain ⟨F₁, d, H₁, l₁, S₁, r₁, q⟩ := z
  obtain ⟨H₂, a, k⟩ := k d H₁ q
  exact wpAny_bind (wpAny_standAt (wpAny_bind (wpAny_mono (a F₁ s₁ v S₁ r₁) (fun _ s₂ z => z.elim fun F₂ l₂ S₂ => wpAny_pure ⟨F₂, H₂, .next, l₁.trans l₂, S₂, rfl, thn k⟩) fun _ _ e => e))))
theorem ex_assign {x : Str} {d : D} (he : ss = .Assign [.Name x (z1 ss).pos] (z0 ss) (posS ss) :: ss.tail) (h : Ev X A (eval (z0 ss) env) H d H₁) (a : Bnd X A env x d H₁ H₂) (hs : swapsWith (z0 ss) (some (.Name x (z1 ss).pos)) (posS ss).line env = pure false) (k : Ex X A (execs ss.tail env) H₂ R) : Ex X A (execs ss env) H R :=
  ex_assignQ (Q := fun d' H' => d' = d ∧ H' = H₁) he (h.q ⟨rfl, rfl⟩) hs fun d' H' q => by rw [q.1, q.2]; exact ⟨H₂, a, k⟩
theorem ex_new {x : Str} {ds : List D} (he : ss = .Assign [.Name x (z1 ss).pos] (z0 ss) (posS ss) :: ss.tail) (h : New X A (eval (z0 ss) env) H ds H₁) (hs : swapsWith (z0 ss) (some (.Name x (z1 ss).pos)) (posS ss).line env = pure false) (k : ∀ a, ∃ H₂, Bnd X A env x (.ptr a) ((a, .lst ds) :: H₁) H₂ ∧ Ex X A (execs ss.tail env) H₂ R) : Ex X A (execs ss env) H R :=
  ex_assignQ (Q := fun d H' => ∃ a, d = .ptr a ∧ H' = (a, .lst ds) :: H₁) he (fun F s S => wpAny_mono (h F s S) (fun v s' ⟨F', a, e, l, S'⟩ => ⟨F', .ptr a, _, l, S', e, a, rfl, rfl⟩) fun _ _ e => e) hs fun d H' q => by obtain ⟨a, e, e'⟩ := q; rw [e, e']; exact k a
theorem ex_assignTup {ts vs : List Expr} {k k' : Nat} {p q : Pos} {d : D} (he : ss = .Assign [z1 ss] (z0 ss) (posS ss) :: ss.tail) (ht : z1 ss = .Tuple ts k p) (hv : z0 ss = .Tuple vs k' q) (h : Ev X A (eval (z0 ss) env) H d H₁) (a : Asg X A env (z1 ss) d H₁ H₂) (hw : swappedStores [z1 ss] (z0 ss) env = pure none) (kk : Ex X A (execs ss.tail env) H₂ R) : Ex X A (execs ss env) H R := .ss he (ex_cons fun F s S => by
  rw [exec_Assign_arm]
  generalize z0 ss = va at *
  generalize z1 ss = ta at *
  subst ht hv
  show wpAny X.M A (do standAt _; let v ← eval (.Tuple vs k' q) env; assignStores env v (← swappedStores [.Tuple ts k p] (.Tuple vs k' q) env) _) _ _ s
  rw [hw]
  refine wpAny_bind (wpAny_standAt (wpAny_bind (h.mono S fun v F₁ s₁ l₁ S₁ r₁ => ?_)))
  exact wpAny_bind (wpAny_pure (wpAny_bind (wpAny_mono (a F₁ s₁ v S₁ r₁) (fun _ s₂ z => z.elim fun F₂ l₂ S₂ => wpAny_pure ⟨F₂, H₂, .next, l₁.trans l₂, S₂, rfl, thn kk⟩) fun _ _ e => e))))
/-- two names, stored the second first -/
theorem ex_assignSwap {x y : Str} {px py : Pos} {vs : List Expr} {k k' : Nat} {p q : Pos} {d₁ d₂ : D} (hh : A.handled = none) (he : ss = .Assign [z1 ss] (z0 ss) (posS ss) :: ss.tail) (ht : z1 ss = .Tuple [.Name x px, .Name y py] k p) (hv : z0 ss = .Tuple vs k' q) (h : Ev X A (eval (z0 ss) env) H (.tup [d₁, d₂]) H₁) (b : Bnd X A env y d₂ H₁ H₂) (a : Bnd X A env x d₁ H₂ K)
    (hw : swappedStores [z1 ss] (z0 ss) env = pure (some [x, y])) (kk : Ex X A (execs ss.tail env) K R) : Ex X A (execs ss env) H R := .ss he (ex_cons fun F s S => by
  rw [exec_Assign_arm]
  generalize z0 ss = va at *
  generalize z1 ss = ta at *
  subst ht hv
  show wpAny X.M A (do standAt _; let v ← eval (.Tuple vs k' q) env; assignStores env v (← swappedStores [.Tuple [.Name x px, .Name y py] k p] (.Tuple vs k' q) env) _) _ _ s
  rw [hw]
  refine wpAny_bind (wpAny_standAt (wpAny_bind (h.mono S fun v F₁ s₁ l₁ S₁ r₁ => ?_)))
  refine wpAny_bind (wpAny_pure (wpAny_bind (wpAny_rule (wpAny_bind ?_))))
  obtain ⟨t, rfl, I⟩ := r₁
  cases I with
  | mk us n f r =>
    obtain ⟨v₁, ws, e₁, r₁, r'⟩ := r.cons_inv
    obtain ⟨v₂, ws', rfl, r₂, r''⟩ := r'.cons_inv
    cases r''.nil_inv
    have hsz : us.size = 2 := by rw [← Array.length_toList, e₁]; rfl
    show wpAny X.M A (unpackItems (.ref t) 2 none) _ _ _
    rw [← hsz]
    refine wpAny_unpackItems_tuple hh ⟨_, S₁.frz _ _ f, rfl, n, rfl⟩ fun h' ex => ?_
    rw [e₁]
    have S' := S₁.keeps (h' := h') (tk := s₁.toks) fun b q eb => ex b q (Nat.ne_of_lt (Heap.lt_size eb)) eb
    exact wpAny_bind (wpAny_bind (wpAny_holding (wpAny_mono (b F₁ _ v₂ S' r₂) (fun _ s₂ z => z.elim fun F₂ l₂ S₂ => wpAny_bind (wpAny_holding (wpAny_mono (a F₂ _ v₁ S₂ (d₁.mono l₂ r₁)) (fun _ s₃ z => z.elim fun F₃ l₃ S₃ => wpAny_pure (wpAny_pure ⟨F₃, K, .next, (l₁.trans l₂).trans l₃, S₃, rfl, thn kk⟩)) fun _ _ e => e))) fun _ _ e => e))))
-- loops
theorem while_loop {test : Expr} {body : List Stmt} {F : Fz} {s : Shared} {Rr : Result → Shared → Prop} (J : Nat → Hs → Prop) (Z : Hs → Prop) {n : Nat} (S : St X H F s) (h0 : J n H)
    (turn : ∀ n H, J n H → ∃ b H₁, Tests X A test env H b H₁ ∧ (b = true → Ex X A (execs body env) H₁ fun o H' => (o = .next ∨ o = .cont) ∧ ∃ m, m < n ∧ J m H') ∧ (b = false → Z H₁))
    (k : ∀ s', (∃ H', Z H' ∧ Got X H' F s') → Rr (.ok .next) s') : codeAny X.M A (.whileLoop test body [] env) Rr s := by
  refine codeAny_whileLoop (fun n s' => ∃ H', Got X H' F s' ∧ J n H') (fun n s₁ z => ?_) n ⟨H, .mk F .rfl S, h0⟩
  obtain ⟨H₁, ⟨F₁, l₁, S₁⟩, j⟩ := z
  obtain ⟨b, H₂, ha, ht, hf⟩ := turn n H₁ j
  refine (ha _ rfl).mono S₁ fun F₂ s₂ l₂ S₂ => ?_
  cases b with
  | false => exact wpAny_execs_nil (k _ ⟨H₂, hf rfl, F₂, l₁.trans l₂, S₂⟩)
  | true =>
    exact wpAny_mono (ht rfl F₂ s₂ S₂) (fun f s₃ z => z.elim fun F₃ H₃ o l₃ S₃ q r => have m : ∃ m, m < n ∧ ∃ H', Got X H' F s₃ ∧ J m H' := r.2.elim fun m z => ⟨m, z.1, H₃, .mk F₃ ((l₁.trans l₂).trans l₃) S₃, z.2⟩
      match o, f, q, r.1 with
      | .next, _, rfl, _ => m
      | .cont, _, rfl, _ => m
      | .brk, _, _, h => h.elim (fun e => nomatch e) (fun e => nomatch e)
      | .ret _, _, _, h => h.elim (fun e => nomatch e) (fun e => nomatch e)) fun _ _ e => e.elim
theorem ex_while (he : ss = .While (z0 ss) (bodyS ss) [] (posS ss) :: ss.tail) (J : Nat → Hs → Prop) (Z : Hs → Prop) {n : Nat} (h0 : J n H)
    (turn : ∀ n H, J n H → ∃ b H₁, Tests X A (z0 ss) env H b H₁ ∧ (b = true → Ex X A (execs (bodyS ss) env) H₁ fun o H' => (o = .next ∨ o = .cont) ∧ ∃ m, m < n ∧ J m H') ∧ (b = false → Z H₁))
    (k : ∀ H', Z H' → Ex X A (execs ss.tail env) H' R) : Ex X A (execs ss env) H R := .ss he (ex_cons fun F s S =>
  wpAny_While (while_loop J Z S h0 turn fun s' z => z.elim fun H' z => z.2.elim fun F₂ l₂ S₂ => .mk F₂ _ .next l₂ S₂ rfl (thn (k H' z.1))))
theorem for_loop {target : Expr} {body : List Stmt} {it : Value} {items : List D} {Z : Hs} {I : Nat → Hs} {F : Fz} {s : Shared} {Rr : Result → Shared → Prop} (W : Itr X A it target I items Z) (J : Nat → Hs → Prop) (S : St X (I 0 ++ H) F s) (h0 : J 0 H)
    (turn : ∀ T j H d, J j H → items[j]? = some d → ∃ H₂, Asg X A env target d (H ++ T) H₂ ∧ Ex X A (execs body env) H₂ fun o H' => (o = .next ∨ o = .cont) ∧ ∃ H'', H' = H'' ++ T ∧ J (j + 1) H'')
    (k : ∀ s', (∃ H', J items.length H' ∧ Got X (Z ++ H') F s') → Rr (.ok .next) s') : codeAny X.M A (.forLoop target it body [] env) Rr s := by
  refine codeAny_forLoop_any (fun n s' => ∃ j H', Got X (I j ++ H') F s' ∧ J j H' ∧ j ≤ items.length ∧ n = items.length - j) (fun n s₁ z => ?_) items.length ⟨0, H, .mk F .rfl S, h0, Nat.zero_le _, rfl⟩
  obtain ⟨j, H₂, ⟨F₂, l₂, S₂⟩, hj, hle, rfl⟩ := z
  cases hd : items[j]? with
  | none =>
    have := Nat.le_antisymm hle (List.getElem?_eq_none_iff.mp hd)
    subst this
    exact wpAny_mono (W.2.1 H₂ F₂ s₁ S₂) (fun r s' z => z.1 ▸ wpAny_execs_nil (k s' ⟨H₂, hj, z.2.elim fun F₃ l₃ S₃ => .mk F₃ (l₂.trans l₃) S₃⟩)) fun _ _ e => e.elim
  | some d =>
    have hlt : j < items.length := (List.getElem?_eq_some_iff.mp hd).1
    obtain ⟨H₃, a, b⟩ := turn (I (j + 1)) j H₂ d hj hd
    have fin : ∀ F₅ s₅ H₅, Le F₂ F₅ → St X H₅ F₅ s₅ → (∃ H'', H₅ = H'' ++ I (j + 1) ∧ J (j + 1) H'') → ∃ m, m < items.length - j ∧ ∃ j' H', Got X (I j' ++ H') F s₅ ∧ J j' H' ∧ j' ≤ items.length ∧ m = items.length - j' := fun F₅ s₅ H₅ l₅ S₅ z =>
      z.elim fun H₆ z => ⟨_, Nat.sub_lt_sub_left hlt (Nat.lt_succ_self j), j + 1, H₆, .mk F₅ (l₂.trans l₅) ((z.1 ▸ S₅).perm List.perm_append_comm), z.2, hlt, rfl⟩
    refine wpAny_mono (W.1 j d H₂ F₂ s₁ hd S₂) (fun r s' z => ?_) fun _ _ e => e.elim
    obtain ⟨v, rfl, z⟩ := z
    exact wpAny_mono z (fun _ s₃ z => z.elim fun F₃ l₃ S₃ hv => wpAny_mono (a F₃ s₃ v (S₃.perm List.perm_append_comm) hv) (fun _ s₄ z => z.elim fun F₄ l₄ S₄ => wpAny_mono (b F₄ s₄ S₄) (fun f s₅ z =>
      z.elim fun F₅ H₅ o l₅ S₅ q r => have m := fin F₅ s₅ H₅ ((l₃.trans l₄).trans l₅) S₅ r.2
        match o, f, q, r.1 with
        | .next, _, rfl, _ => m
        | .cont, _, rfl, _ => m
        | .brk, _, _, h => h.elim (fun e => nomatch e) (fun e => nomatch e)
        | .ret _, _, _, h => h.elim (fun e => nomatch e) (fun e => nomatch e)) fun _ _ e => e.elim) fun _ _ e => e.elim) fun _ _ e => e.elim
theorem ex_for {items : List D} {Z : Hs} (he : ss = .For (z0 ss) (z1 ss) (bodyS ss) [] (posS ss) :: ss.tail) (src : SrcE X A (eval (z1 ss) env) (z0 ss) items Z H H₁) (J : Nat → Hs → Prop) (h0 : J 0 H₁) (hs : ∀ x, foldedSetIterable (z1 ss) env x = pure x)
    (turn : ∀ T j H d, J j H → items[j]? = some d → ∃ H₂, Asg X A env (z0 ss) d (H ++ T) H₂ ∧ Ex X A (execs (bodyS ss) env) H₂ fun o H' => (o = .next ∨ o = .cont) ∧ ∃ H'', H' = H'' ++ T ∧ J (j + 1) H'')
    (k : ∀ H', J items.length H' → Ex X A (execs ss.tail env) (Z ++ H') R) : Ex X A (execs ss env) H R := .ss he (ex_cons fun F s S =>
  wpAny_For (wpAny_mono (src F s S) (fun v s₁ h₁ => wpAny_mono h₁ (fun it s₂ z => z.elim fun I F₁ W l₁ S₁ => for_loop W J S₁ h0 turn fun s' z => z.elim fun H' z => z.2.elim fun F₂ l₂ S₂ => .mk F₂ _ .next (l₁.trans l₂) S₂ rfl (thn (k H' z.1))) fun _ _ e => e.elim) fun _ _ e => e) hs)
end
end Mine
namespace Mine
section
variable {X : Cx} {A : Around} {env : Env} {H H' H₁ H₂ K Z : Hs}
def Tst (X : Cx) (A : Around) (ifs : List Expr) (env : Env) (H : Hs) (b : Bool) (H' : Hs) : Prop :=
  ∀ F s, St X H F s → wpAny X.M A (forIn ifs true fun c r => if r = true then do let ok ← isTrue c env (eval c env); pure (ForInStep.yield ok) else pure (ForInStep.yield r)) (fun c s' => c = b ∧ Got X H' F s') (fun _ _ => False) s
theorem tst_nil : Tst X A [] env H true H := fun F s S => wpAny_tests_nil ⟨rfl, F, .rfl, S⟩
theorem tst_one {c : Expr} {b : Bool} (h : Tests X A c env H b H') : Tst X A [c] env H b H' := fun F s S => wpAny_tests_one (h _ rfl F s S)
/-- one turn of a comprehension: what it adds, what it leaves -/
inductive Turn (X : Cx) (A : Around) (env : Env) (target elt : Expr) (ifs : List Expr) (d : D) (C : Addr) (T H : Hs) (Q : Option D → Hs → Prop) : Prop
  | mk (H₂ H₃ : Hs) (b : Bool) (a : Asg X A env target d ((C, .ns []) :: (H ++ T)) H₂) (t : Tst X A ifs env H₂ b H₃) (no : b = false → ∃ m H', H₃ = (C, .ns m) :: (H' ++ T) ∧ Q none H')
      (yes : b = true → EvQ X A (eval elt env) H₃ fun e H₄ => ∃ m H', H₄ = (C, .ns m) :: (H' ++ T) ∧ Q (some e) H')
theorem comp_loop {elt target iter : Expr} {ifs : List Expr} {scope : Scope} {pos : Pos} {it acc : Value} {R : Result → Shared → Prop} {s : Shared} (I : Nat → Shared → Prop)
    (turn : ∀ n s, I n s → wpAny X.M A (pyNext it) (fun r s₁ => match r with
      | none => R (.ok .next) s₁
      | some v => wpAny X.M A (letOwnedTupleGo target it v) (fun _ s₂ => wpAny X.M A (assign target env v) (fun _ s₂ =>
          wpAny X.M A (forIn ifs true fun c r => if r = true then do let ok ← isTrue c env (eval c env); pure (ForInStep.yield ok) else pure (ForInStep.yield r)) (fun ok s₃ =>
            if ok = true then wpAny X.M A (eval elt env) (fun x s₄ =>
              wpAny X.M A (call (.builtin "list.append") [acc, x]) (fun _ s₅ => ∃ m, m < n ∧ I m s₅) (fun _ _ => False) s₄) (fun _ _ => False) s₃
            else ∃ m, m < n ∧ I m s₃) (fun _ _ => False) s₂) (fun _ _ => False) s₂) (fun _ _ => False) s₁) (fun _ _ => False) s)
    (n : Nat) (h : I n s) : codeAny X.M A (.compLoop (.ListComp elt [⟨target, iter, ifs, 0⟩] scope pos) 0 it acc env) R s := by
  refine codeAny_loop rfl I (fun n s hI => ?_) n h
  show wpAny _ A ((compTurn (.ListComp elt [⟨target, iter, ifs, 0⟩] scope pos) 0 it acc env).onRaise (fun x => do noteFrame x env; theTreesLotGoes x)) _ _ s
  refine wpAny_noted (wpAny_mono (E := fun _ _ => False) ?_ (fun _ _ h => h) fun _ _ e => e.elim)
  rw [compTurn_list]
  refine wpAny_bind (wpAny_standAt (wpAny_bind (wpAny_mono (turn n s hI) (fun r s₁ h₁ => ?_) fun _ _ h' => h')))
  cases r with
  | none => exact wpAny_pure h₁
  | some v =>
    refine wpAny_bind (wpAny_mono h₁ (fun _ s₂ h₂ => ?_) fun _ _ h' => h')
    refine wpAny_bind (wpAny_mono h₂ (fun _ s₂ h₂ => wpAny_bind (wpAny_mono h₂ (fun ok s₃ h₃ => ?_) fun _ _ h' => h')) fun _ _ h' => h')
    cases ok with
    | false => exact wpAny_pure ⟨rfl, h₃⟩
    | true =>
      exact wpAny_bind (wpAny_bind (wpAny_mono h₃ (fun x s₄ h₄ => wpAny_bind (wpAny_mono h₄ (fun _ s₅ h₅ => wpAny_pure (wpAny_pure ⟨rfl, h₅⟩)) fun _ _ h' => h')) fun _ _ h' => h'))
inductive CompI (X : Cx) (I : Nat → Hs) (J : Nat → List D → Hs → Prop) (C acc : Addr) (N : Nat) (F : Fz) (n : Nat) (s' : Shared) : Prop
  | mk (F' : Fz) (j : Nat) (ds : List D) (K : Hs) (l : Le F F') (S : St X ((C, .ns []) :: (K ++ ((acc, .lst ds) :: I j))) F' s') (k : J j ds K) (hz : ds.length ≤ j) (hj : j ≤ N) (e : n = N - j)
theorem app_list {acc : Addr} {ds : List D} {d : D} {F : Fz} {s : Shared} {v : Value} {L T : Hs} (S : St X (L ++ (acc, .lst ds) :: T) F s) (hv : d.is F v) (hz : ds.length ≤ sizeLine) {Q : Value → Shared → Prop} {E : Value → Shared → Prop} (h : ∀ s', St X (L ++ (acc, .lst (ds ++ [d])) :: T) F s' → Q .none s') :
    wpAny X.M A (call (.builtin "list.append") [.ref acc, v]) Q E s := by
  obtain ⟨o, ho, hq⟩ := S.tur (acc, .lst ds) (List.mem_append_right _ List.mem_cons_self)
  cases hq with
  | mk vs n e r =>
    subst e
    refine call_meets slot_list_append ⟨_, ho, rfl⟩ entry_list_append (args_list_append _ _) (PySem.list_append acc vs n v (by rw [← Array.length_toList, r.1]; exact hz)) ⟨ho, h _ ?_⟩
    refine S.up ⟨L, _, T, rfl, rfl⟩ (fun b q hb eb => (Heap.get?_update_other _ _ (Ne.symm hb)).trans eb) (Heap.get?_update_self _ ho rfl) (.mk (vs.push v) _ rfl ?_)
    rw [Array.toList_push]; exact r.append (.one hv)
theorem comp_turns {elt target iter : Expr} {ifs : List Expr} {scope : Scope} {pos : Pos} {it : Value} {acc C : Addr} {items : List D} {I : Nat → Hs} {J : Nat → List D → Hs → Prop} {F : Fz} {s : Shared} {R : Result → Shared → Prop} (W : Itr X A it target I items Z) (hsz : items.length ≤ sizeLine)
    (turn : ∀ T j ds K d, J j ds K → items[j]? = some d → Turn X A env target elt ifs d C T K fun o K' => J (j + 1) (ds ++ o.toList) K')
    (S : St X ((C, .ns []) :: (K ++ ((acc, .lst []) :: I 0))) F s) (h0 : J 0 [] K)
    (post : ∀ F' s' ds K, Le F F' → J items.length ds K → St X ((C, .ns []) :: (acc, .lst ds) :: (Z ++ K)) F' s' → R (.ok .next) s') :
    codeAny X.M A (.compLoop (.ListComp elt [⟨target, iter, ifs, 0⟩] scope pos) 0 it (.ref acc) env) R s := by
  refine comp_loop (CompI X I J C acc items.length F) (fun n s₁ z => ?_) items.length (.mk F 0 [] K .rfl S h0 (Nat.le_refl _) (Nat.zero_le _) rfl)
  cases z with
  | mk F₁ j ds K l₁ S₁ hj hz hle e =>
    subst e
    have p : ∀ (i : Nat) (x : Addr × P) (es : List D) (K' : Hs), List.Perm (x :: (K' ++ ((acc, P.lst es) :: I i))) (I i ++ (x :: (acc, P.lst es) :: K')) := fun i x es K' =>
      ((List.perm_middle (a := (acc, P.lst es))).cons x).trans ((List.perm_append_comm (l₁ := x :: (acc, P.lst es) :: K') (l₂ := I i)))
    have S₁' := S₁.perm (p j _ _ _)
    cases hd : items[j]? with
    | none =>
      have : j = items.length := Nat.le_antisymm hle (List.getElem?_eq_none_iff.mp hd)
      subst this
      refine wpAny_mono (W.2.1 _ F₁ s₁ S₁') (fun r s' z => ?_) fun _ _ e => e
      obtain ⟨rfl, z⟩ := z
      cases z with
      | mk F₂ l₂ S₂ => exact post F₂ s' ds K (l₁.trans l₂) hj (S₂.perm ((List.perm_append_comm (l₁ := Z)).trans (((List.perm_append_comm (l₁ := K)).cons _).cons _)))
    | some d =>
      have hlt : j < items.length := (List.getElem?_eq_some_iff.mp hd).1
      refine wpAny_mono (W.1 j d _ F₁ s₁ hd S₁') (fun r s' z => ?_) fun _ _ e => e
      obtain ⟨v, rfl, z⟩ := z
      refine wpAny_mono z (fun _ s₂ z => ?_) fun _ _ e => e
      cases z with
      | mk F₂ l₂ S₂ hv =>
        have tn := turn ((acc, P.lst ds) :: I (j + 1)) j ds K d hj hd
        cases tn with
        | mk H₂ H₃ b a t no yes =>
          refine wpAny_mono (a F₂ s₂ v (S₂.perm (p (j + 1) _ _ _).symm) hv) (fun _ s₃ z => ?_) fun _ _ e => e
          cases z with
          | mk F₃ l₃ S₃ =>
            refine wpAny_mono (t F₃ s₃ S₃) (fun ok s₄ z => ?_) fun _ _ e => e
            obtain ⟨rfl, z⟩ := z
            cases z with
            | mk F₄ l₄ S₄ =>
              have l := ((l₁.trans l₂).trans l₃).trans l₄
              have lt := Nat.sub_lt_sub_left hlt (Nat.lt_succ_self j)
              cases ok with
              | false =>
                obtain ⟨m, K', rfl, q⟩ := no rfl
                rw [Option.toList_none, List.append_nil] at q
                exact ⟨_, lt, F₄, j + 1, ds, K', l, S₄.wk (.keep (.ns fun _ h => by cases h) .rfl), q, Nat.le_succ_of_le hz, hlt, rfl⟩
              | true =>
                refine wpAny_mono (yes rfl F₄ s₄ S₄) (fun x s₅ z => ?_) fun _ _ e => e
                cases z with
                | mk F₅ e H₅ l₅ S₅ hx q =>
                  obtain ⟨m, K', rfl, q⟩ := q
                  have S₆ : St X ((C, .ns []) :: (K' ++ (acc, .lst ds) :: I (j + 1))) F₅ s₅ := S₅.wk (.keep (.ns fun _ h => by cases h) .rfl)
                  refine app_list (L := (C, .ns []) :: K') S₆ hx (Nat.le_trans hz (Nat.le_trans hle hsz)) fun s' S' => ?_
                  exact ⟨_, lt, F₅, j + 1, ds ++ [e], K', l.trans l₅, S', q, by rw [List.length_append]; exact Nat.succ_le_succ hz, hlt, rfl⟩
theorem comp_start {elt target iter : Expr} {ifs : List Expr} {scope : Scope} {pos : Pos} {it : Value} {acc C : Addr} {items : List D} {I : Nat → Hs} {J : Nat → List D → Hs → Prop} {F : Fz} {s : Shared} {R : Result → Shared → Prop} (W : Itr X A it target I items Z) (hsz : items.length ≤ sizeLine)
    (turn : ∀ T j ds K d, J j ds K → items[j]? = some d → Turn X A env target elt ifs d C T K fun o K' => J (j + 1) (ds ++ o.toList) K')
    (S : St X ((C, .ns []) :: (K ++ ((acc, .lst []) :: I 0))) F s) (h0 : J 0 [] K)
    (post : ∀ F' s' ds K, Le F F' → J items.length ds K → St X ((C, .ns []) :: (acc, .lst ds) :: (Z ++ K)) F' s' → R (.ok .next) s') :
    codeAny X.M A (.compStart (.ListComp elt [⟨target, iter, ifs, 0⟩] scope pos) 0 it (.ref acc) env) R s :=
  have p : List.Perm ((C, P.ns []) :: (K ++ ((acc, .lst []) :: I 0))) (I 0 ++ ((C, P.ns []) :: (acc, P.lst []) :: K)) := ((List.perm_middle (a := (acc, P.lst []))).cons _).trans ((List.perm_append_comm (l₁ := (C, P.ns []) :: (acc, P.lst []) :: K)))
  codeAny_compStart_list (comp_turns W hsz turn S h0 post) (wpAny_mono (W.2.2 0 _ _ _ (S.perm p)) (fun v s' z => by
    obtain ⟨rfl, z⟩ := z
    exact comp_turns W hsz turn (z.perm p.symm) h0 post) fun _ _ e => e.elim)
theorem comp_core {elt target iter : Expr} {ifs : List Expr} {scope : Scope} {cl : List (Str × Addr)} {pos p : Pos} {use : Option (Value → Sem Unit)} {items : List D} {J : Nat → List D → Hs → Prop} {F : Fz} {s : Shared} {Q : Value → Shared → Prop}
    (hclos : closureFor scope env = pure cl) (hcell : ∀ y ∈ scope.names, y.2 ≠ .cell) (hkind : scope.kind = .function) (hnames : ∀ y ∈ scope.names, y.2 = .local → scope.names.lookup y.1 = some .local) (hf : ∀ x, foldedSetIterable iter env x = pure x)
    (src : SrcE X A (eval iter env) target items Z H H₁) (hsz : items.length ≤ sizeLine) (h0 : J 0 [] H₁)
    (turn : ∀ C T j ds K d, J j ds K → items[j]? = some d → Turn X A (compEnvC scope cl C env) target elt ifs d C T K fun o K' => J (j + 1) (ds ++ o.toList) K') (S : St X H F s)
    (post : ∀ acc C F' s' ds K, Le F F' → J items.length ds K → St X ((C, .ns []) :: (acc, .lst ds) :: (Z ++ K)) F' s' → compPost X.M A (fun _ _ => False) use Q (.ref acc) C (.ok .next) s') :
    wpAny X.M A (comprehension (.ListComp elt [⟨target, iter, ifs, 0⟩] scope pos) scope env p (newList []) false (eval iter env) use) Q (fun _ _ => False) s := by
  refine wpAny_comprehension_free rfl hf hclos hkind hnames (wpAny_mono (src F s S) (fun x s₁ z => wpAny_mono z (fun it s₂ z => ?_) fun _ _ e => e) fun _ _ e => e)
  cases z with
  | mk I F₁ W l₁ S₁ =>
    refine wpAny_newObj_type (hd := by size_fits) (wpAny_newFunctionEnv hcell (by intro y hy; cases hy) (fun h₁ hns hsb => ?_) hkind)
    have S₂ := S₁.pushH (p := P.lst []) (tk := s₂.toks) (listOf ([] : List Value).toArray 0) (.mk _ _ rfl .nil)
    obtain ⟨on, esn, epn, hon, hdn, hkn, hfn⟩ := hns
    have S₃ := S₂.more (p := P.ns []) (tk := s₂.toks + ([] : List (Str × Value)).length) (fun b q eb => hsb.extBut b q (Nat.ne_of_lt (Heap.lt_size eb)) (Heap.get?_push_of_some _ eb)) hon (Nat.le_refl _) (.mk esn epn hdn hkn fun _ _ h => by cases h)
    have S₄ := S₃.perm ((((List.perm_append_comm (l₁ := I 0)).cons _).trans (List.perm_middle (l₁ := H₁)).symm).cons _)
    exact comp_start W hsz (fun T j ds K d => turn _ T j ds K d) S₄ h0 fun F' s' ds K l k S' => post _ _ F' s' ds K (l₁.trans l) k S'
structure Cmp (env : Env) (scope : Scope) (cl : List (Str × Addr)) (iter : Expr) : Prop where
  clos : closureFor scope env = pure cl
  cell : (scope.names.all fun y => !(y.2 == .cell)) = true
  kind : scope.kind = .function
  names : (scope.names.all fun y => !(y.2 == .local) || scope.names.lookup y.1 == some .local) = true
  fold : ∀ x, foldedSetIterable iter env x = pure x
theorem Cmp.cells {scope : Scope} {cl : List (Str × Addr)} {iter : Expr} (c : Cmp env scope cl iter) : ∀ y ∈ scope.names, y.2 ≠ .cell := fun y hy e => by
  have := List.all_eq_true.mp c.cell y hy; rw [e] at this; cases this
theorem Cmp.locals {scope : Scope} {cl : List (Str × Addr)} {iter : Expr} (c : Cmp env scope cl iter) : ∀ y ∈ scope.names, y.2 = .local → scope.names.lookup y.1 = some .local := fun y hy e => by
  have := List.all_eq_true.mp c.names y hy; rw [e] at this; exact beq_iff_eq.mp this
def CompIs (e : Expr) (ifs : List Expr) : Prop := e = .ListComp (k0 e) [⟨k1 e, k2 e, ifs, 0⟩] (scopeE e) e.pos
theorem evq_comp {e : Expr} {ifs : List Expr} {cl : List (Str × Addr)} {items : List D} (J : Nat → List D → Hs → Prop) {Q : D → Hs → Prop} (he : CompIs e ifs) (c : Cmp env (scopeE e) cl (k2 e))
    (src : SrcE X A (eval (k2 e) env) (k1 e) items Z H H₁) (hsz : items.length ≤ sizeLine) (h0 : J 0 [] H₁)
    (turn : ∀ C T j ds K d, J j ds K → items[j]? = some d → Turn X A (compEnvC (scopeE e) cl C env) (k1 e) (k0 e) ifs d C T K fun o K' => J (j + 1) (ds ++ o.toList) K')
    (hq : ∀ ds K, J items.length ds K → Q (.lst ds) (Z ++ K)) : EvQ X A (eval e env) H Q := fun F s S => by
  unfold CompIs at he
  rw [he, eval_ListComp]
  refine comp_core (use := none) c.clos c.cells c.kind c.locals c.fold src hsz h0 turn S fun acc C F' s' ds K l k S' => ?_
  obtain ⟨o, ho, hn⟩ := S'.tur (C, .ns []) List.mem_cons_self
  cases hn with
  | mk es ep d k r =>
    refine ⟨_, ⟨o, es, ep, ho, d, k, fun _ => rfl⟩, fun h' hs => ?_⟩
    obtain ⟨F₂, l₂, S₂, r₂⟩ := (S'.lose (h' := h') (tk := s'.toks) hs.extBut).lst
    exact .mk F₂ _ _ (l.trans l₂) S₂ r₂ (hq ds K ‹_›)
theorem use_comp {e : Expr} {ifs : List Expr} {u : Value → Sem Unit} (he : CompIs e ifs) : evalThenUse e env u = (do let _ ← comprehension (.ListComp (k0 e) [⟨k1 e, k2 e, ifs, 0⟩] (scopeE e) e.pos) (scopeE e) env (k2 e).pos (newList []) false (eval (k2 e) env) (some u); pure ()) := by
  unfold CompIs at he
  generalize k0 e = a at *
  generalize k1 e = b at *
  generalize k2 e = c at *
  generalize scopeE e = sc at *
  generalize e.pos = ps at *
  subst he
  rfl
theorem ex_comp {ss : List Stmt} {ifs : List Expr} {cl : List (Str × Addr)} {x : Str} {items : List D} {R : Out → Hs → Prop} (J : Nat → List D → Hs → Prop) (he : ss = .Assign [.Name x (z1 ss).pos] (z0 ss) (posS ss) :: ss.tail) (hc : CompIs (z0 ss) ifs) (c : Cmp env (scopeE (z0 ss)) cl (k2 (z0 ss)))
    (src : SrcE X A (eval (k2 (z0 ss)) env) (k1 (z0 ss)) items Z H H₁) (hsz : items.length ≤ sizeLine) (h0 : J 0 [] H₁)
    (turn : ∀ C T j ds K d, J j ds K → items[j]? = some d → Turn X A (compEnvC (scopeE (z0 ss)) cl C env) (k1 (z0 ss)) (k0 (z0 ss)) ifs d C T K fun o K' => J (j + 1) (ds ++ o.toList) K')
    (hsw : swapsWith (z0 ss) (some (.Name x (z1 ss).pos)) (posS ss).line env = pure true)
    (k : ∀ ds K, J items.length ds K → ∃ H₂, (∀ C, Bnd X A env x (.lst ds) ((C, .ns []) :: (Z ++ K)) ((C, .ns []) :: H₂)) ∧ Ex X A (execs ss.tail env) H₂ R) : Ex X A (execs ss env) H R := .ss he (ex_cons fun F s S => by
  rw [exec_Assign_Name_used _ _ _ _ hsw, use_comp hc]
  refine wpAny_bind (wpAny_standAt (wpAny_bind (wpAny_bind (wpAny_mono (comp_core (use := some (assign (.Name x (z1 ss).pos) env)) (Q := fun _ s' => GotF X (Thn X A env ss.tail R) F .next s') c.clos c.cells c.kind c.locals c.fold src hsz h0 turn S fun acc C F' s' ds K l j S' => ?_) (fun _ s' h => wpAny_pure (wpAny_pure h)) fun _ _ e => e))))
  obtain ⟨F₁, l₁, S₁, r₁⟩ := (S'.perm (List.Perm.swap ..)).lst
  obtain ⟨H₂, b, e⟩ := k ds K j
  refine wpAny_mono ((b C).asg rfl F₁ s' _ S₁ r₁) (fun _ s₂ z => ?_) fun _ _ e => e
  cases z with
  | mk F₂ l₂ S₂ =>
    obtain ⟨o, ho, hn⟩ := S₂.tur (C, .ns []) List.mem_cons_self
    cases hn with
    | mk es ep d k r => exact ⟨_, ⟨o, es, ep, ho, d, k, fun _ => rfl⟩, fun h' hs => .mk F₂ H₂ .next ((l.trans l₁).trans l₂) (S₂.lose (h' := h') (tk := s₂.toks) hs.extBut) rfl (thn e)⟩)
-- turns that change nothing else
theorem turn_if {target elt c : Expr} {d e : D} {C : Addr} {T : Hs} {m : List (Str × D)} {b : Bool} (a : Asg X A env target d ((C, .ns []) :: (H ++ T)) ((C, .ns m) :: (H ++ T))) (t : Tests X A c env ((C, .ns m) :: (H ++ T)) b ((C, .ns m) :: (H ++ T)))
    (h : b = true → Ev X A (eval elt env) ((C, .ns m) :: (H ++ T)) e ((C, .ns m) :: (H ++ T))) : Turn X A env target elt [c] d C T H fun o K => o = (if b then some e else none) ∧ K = H :=
  .mk _ _ b a (tst_one t) (fun hb => ⟨m, H, rfl, by rw [hb]; rfl, rfl⟩) fun hb => (h hb).q ⟨m, H, rfl, by rw [hb]; rfl, rfl⟩
theorem turn_all {target elt : Expr} {d e : D} {C : Addr} {T K : Hs} {m m' : List (Str × D)} (a : Asg X A env target d ((C, .ns []) :: (H ++ T)) ((C, .ns m) :: (H ++ T)))
    (h : Ev X A (eval elt env) ((C, .ns m) :: (H ++ T)) e ((C, .ns m') :: (K ++ T))) : Turn X A env target elt [] d C T H fun o K' => o = some e ∧ K' = K :=
  .mk _ _ true a tst_nil (fun hb => by cases hb) fun _ => h.q ⟨m', K, rfl, rfl, rfl⟩
theorem Turn.weak {target elt : Expr} {ifs : List Expr} {d : D} {C : Addr} {T : Hs} {Q Q' : Option D → Hs → Prop} (h : Turn X A env target elt ifs d C T H Q) (k : ∀ o K, Q o K → Q' o K) : Turn X A env target elt ifs d C T H Q' := by
  cases h with
  | mk H₂ H₃ b a t no yes =>
    exact .mk H₂ H₃ b a t (fun hb => (no hb).imp fun m z => z.imp fun H' z => ⟨z.1, k _ _ z.2⟩) fun hb F s S => wpAny_mono (yes hb F s S) (fun v s' z => by
      cases z with
      | mk F' d H' l S r q => exact .mk F' d H' l S r (q.imp fun m z => z.imp fun H' z => ⟨z.1, k _ _ z.2⟩)) fun _ _ e => e
/-- the list so far -/
def Sofar {α : Type} (xs : List α) (p : α → Bool) (e : α → D) (H : Hs) (j : Nat) (ds : List D) (K : Hs) : Prop := ds = ((xs.take j).filter p).map e ∧ K = H
theorem Sofar.next {α : Type} {xs : List α} {p : α → Bool} {e : α → D} {x : α} {j : Nat} {ds : List D} {K K' : Hs} {o : Option D} (h : Sofar xs p e H j ds K) (hx : xs[j]? = some x) (q : o = (if p x then some (e x) else none) ∧ K' = H) : Sofar xs p e H (j + 1) (ds ++ o.toList) K' := by
  obtain ⟨rfl, rfl⟩ := h
  obtain ⟨rfl, rfl⟩ := q
  refine ⟨?_, rfl⟩
  rw [take_succ_filter p xs j x hx, List.map_append]
  cases p x <;> rfl
theorem Sofar.all {α : Type} {xs : List α} {p : α → Bool} {e : α → D} {f : α → D} {ds : List D} {K : Hs} (h : Sofar xs p e H (xs.map f).length ds K) : ds = (xs.filter p).map e ∧ K = H := by
  unfold Sofar at h; rwa [List.length_map, List.take_length] at h
theorem map_get {α : Type} {xs : List α} {f : α → D} {j : Nat} {d : D} (h : (xs.map f)[j]? = some d) : ∃ x, xs[j]? = some x ∧ f x = d := by
  rw [List.getElem?_map] at h
  cases hx : xs[j]? with
  | none => rw [hx] at h; cases h
  | some x => rw [hx] at h; cases h; exact ⟨x, rfl, rfl⟩
theorem ev_comp {α : Type} (xs : List α) (f g : α → D) (p : α → Bool) {e : Expr} {ifs : List Expr} {cl : List (Str × Addr)} (he : CompIs e ifs) (c : Cmp env (scopeE e) cl (k2 e)) (src : SrcE X A (eval (k2 e) env) (k1 e) (xs.map f) [] H H₁) (hsz : xs.length ≤ sizeLine)
    (turn : ∀ C T x, x ∈ xs → Turn X A (compEnvC (scopeE e) cl C env) (k1 e) (k0 e) ifs (f x) C T H₁ fun o K => o = (if p x then some (g x) else none) ∧ K = H₁) : Ev X A (eval e env) H (.lst ((xs.filter p).map g)) H₁ :=
  (evq_comp (Sofar xs p g H₁) (Q := fun d K => d = .lst ((xs.filter p).map g) ∧ K = H₁) he c src (by rwa [List.length_map]) ⟨rfl, rfl⟩ (fun C T j ds K d hj hd => by
    obtain ⟨x, hx, rfl⟩ := map_get hd
    cases hj.2
    exact (turn C T x (List.mem_of_getElem? hx)).weak fun o K q => hj.next hx q) fun ds K h => by obtain ⟨rfl, rfl⟩ := h.all; exact ⟨rfl, rfl⟩).ev fun _ _ h => h
theorem ex_compP {α : Type} (xs : List α) (f g : α → D) (p : α → Bool) {ss : List Stmt} {ifs : List Expr} {cl : List (Str × Addr)} {x : Str} {R : Out → Hs → Prop} (he : ss = .Assign [.Name x (z1 ss).pos] (z0 ss) (posS ss) :: ss.tail) (hc : CompIs (z0 ss) ifs) (c : Cmp env (scopeE (z0 ss)) cl (k2 (z0 ss)))
    (src : SrcE X A (eval (k2 (z0 ss)) env) (k1 (z0 ss)) (xs.map f) [] H H₁) (hsz : xs.length ≤ sizeLine)
    (turn : ∀ C T x, x ∈ xs → Turn X A (compEnvC (scopeE (z0 ss)) cl C env) (k1 (z0 ss)) (k0 (z0 ss)) ifs (f x) C T H₁ fun o K => o = (if p x then some (g x) else none) ∧ K = H₁)
    (b : ∀ C, Bnd X A env x (.lst ((xs.filter p).map g)) ((C, .ns []) :: H₁) ((C, .ns []) :: H₂))
    (hsw : swapsWith (z0 ss) (some (.Name x (z1 ss).pos)) (posS ss).line env = pure true) (k : Ex X A (execs ss.tail env) H₂ R) : Ex X A (execs ss env) H R :=
  ex_comp (Sofar xs p g H₁) he hc c src (by rwa [List.length_map]) ⟨rfl, rfl⟩ (fun C T j ds K d hj hd => by
    obtain ⟨x, hx, rfl⟩ := map_get hd
    cases hj.2
    exact (turn C T x (List.mem_of_getElem? hx)).weak fun o K q => hj.next hx q) hsw fun ds K h => by obtain ⟨rfl, rfl⟩ := h.all; exact ⟨H₂, b, k⟩
end
end Mine
namespace Mine
/-- a datum read as plain data -/
def Rd (d : D) (p : PyData) : Prop := ∀ F h v, (∀ a o, F a = some o → Heap.get? h a = some o) → d.is F v → ∃ as, Reads h v p as
inductive RdL : List D → List PyData → Prop
  | nil : RdL [] []
  | cons {d p ds ps} : Rd d p → RdL ds ps → RdL (d :: ds) (p :: ps)
theorem rd_int {i : Int} : Rd (.int i) (.int i) := fun F h v k ⟨t, e⟩ => by subst e; exact ⟨_, .int i t⟩
theorem rd_str {x : Str} : Rd (.str x) (.str x) := fun F h v k ⟨t, e⟩ => by subst e; exact ⟨_, .str x t⟩
theorem rd_none : Rd .none .none := fun F h v k e => by cases e; exact ⟨_, .none⟩
theorem rd_bool {b : Bool} : Rd (.bool b) (.bool b) := fun F h v k e => by cases e; exact ⟨_, .bool b⟩
theorem RdL.reads {F : Fz} {h : Heap} (k : ∀ a o, F a = some o → Heap.get? h a = some o) {ds : List D} {ps : List PyData} (r : RdL ds ps) : ∀ {vs : List Value}, RepL F vs ds → ∃ as, ReadsAll h vs ps as := by
  induction r with
  | nil => intro vs q; rw [q.nil_inv]; exact ⟨_, .nil⟩
  | cons a _ ih =>
    intro vs q
    obtain ⟨v, us, rfl, hv, q⟩ := q.cons_inv
    obtain ⟨as, ra⟩ := a F h v k hv
    obtain ⟨bs, rb⟩ := ih q
    exact ⟨_, .cons ra rb⟩
theorem rd_lst {ds : List D} {ps : List PyData} (r : RdL ds ps) : Rd (.lst ds) (.list ps) := fun F h v k ⟨a, e, I⟩ => by
  subst e
  cases I with | mk vs n f q => obtain ⟨as, z⟩ := r.reads k q; exact ⟨_, .list (k _ _ f) rfl rfl z⟩
theorem rd_tup {ds : List D} {ps : List PyData} (r : RdL ds ps) : Rd (.tup ds) (.tuple ps) := fun F h v k ⟨a, e, I⟩ => by
  subst e
  cases I with | mk vs n f q => obtain ⟨as, z⟩ := r.reads k q; exact ⟨_, .tuple (k _ _ f) rfl rfl z⟩
theorem RdL.map {α : Type} {f : α → D} {g : α → PyData} : ∀ {xs : List α}, (∀ x ∈ xs, Rd (f x) (g x)) → RdL (xs.map f) (xs.map g)
  | [], _ => .nil
  | x :: xs, h => .cons (h x List.mem_cons_self) (RdL.map fun y hy => h y (List.mem_cons_of_mem _ hy))
/-- the sequence that d points at -/
inductive SqIs (T : String) (F : Fz) (s : Shared) (v : Value) (ds : List D) : Prop
  | mk (l : Addr) (vs : Array Value) (n : Nat) (e : v = .ref l) (f : s.heap.get? l = some { cls := .type T, data := .seq vs n }) (r : RepL F vs.toList ds)
def Sq (X : Cx) (H : Hs) (T : String) (d : D) (ds : List D) : Prop := ∀ F s v, St X H F s → d.is F v → SqIs T F s v ds
/-- what stands at d, read -/
def RdS (X : Cx) (H : Hs) (d : D) (p : PyData) : Prop := ∀ F s v, St X H F s → d.is F v → ∃ as, Reads s.heap v p as
section
variable {X : Cx} {A : Around} {env : Env} {H H' H₁ H₂ K : Hs} {R : Out → Hs → Prop}
theorem Rd.s {d : D} {p : PyData} (r : Rd d p) : RdS X H d p := fun F s v S hv => r F s.heap v S.frz hv
theorem sq {T : String} {ds : List D} : Sq X H T (.seq T ds) ds := fun F s v S ⟨a, e, I⟩ => by
  cases I with | mk vs n f r => exact .mk a vs n e (S.frz _ _ f) r
theorem sqP {l : Addr} {ds : List D} (hm : (l, P.lst ds) ∈ H) : Sq X H "list" (.ptr l) ds := fun F s v S e => by
  obtain ⟨o, ho, hq⟩ := S.tur _ hm
  cases hq with | mk vs n eo r => subst eo; exact .mk l vs n e ho r
theorem Sq.rd {d : D} {ds : List D} {ps : List PyData} (q : Sq X H "list" d ds) (r : RdL ds ps) : RdS X H d (.list ps) := fun F s v S hv => by
  cases q F s v S hv with
  | mk l vs n e f rr => subst e; obtain ⟨as, z⟩ := r.reads S.frz rr; exact ⟨_, .list f rfl rfl z⟩
-- comparisons of data
theorem op_eq {d₁ d₂ : D} {p q : PyData} (r₁ : RdS X H d₁ p) (r₂ : RdS X H d₂ q) (h₁ : p.canLay0 = true) (h₂ : q.canLay0 = true) (hu : A.units + min p.depth q.depth < cLine) : Op2 X A (compareOp .Eq) d₁ d₂ H (.bool (PyData.eqv p q)) H := fun F s v₁ v₂ S a b => by
  obtain ⟨as, ra⟩ := r₁ F s v₁ S a
  obtain ⟨bs, rb⟩ := r₂ F s v₂ S b
  exact SeqAt.eqOverData prog X.w A (fun _ _ => False) s v₁ v₂ p q as bs _ ra rb h₁ h₂ hu ⟨F, .rfl, S, rfl⟩
theorem op_ne {d₁ d₂ : D} {p q : PyData} (r₁ : RdS X H d₁ p) (r₂ : RdS X H d₂ q) (h₁ : p.canLay0 = true) (h₂ : q.canLay0 = true) (hu : A.units + min p.depth q.depth < cLine) : Op2 X A (compareOp .NotEq) d₁ d₂ H (.bool (!PyData.eqv p q)) H := fun F s v₁ v₂ S a b => by
  obtain ⟨as, ra⟩ := r₁ F s v₁ S a
  obtain ⟨bs, rb⟩ := r₂ F s v₂ S b
  exact SeqAt.neOverData prog X.w A (fun _ _ => False) s v₁ v₂ p q as bs _ ra rb h₁ h₂ hu ⟨F, .rfl, S, rfl⟩
theorem op_in {d₁ d₂ : D} {p : PyData} {qs : List PyData} (r₁ : RdS X H d₁ p) (r₂ : RdS X H d₂ (.list qs)) (h₁ : p.canLay0 = true) (h₂ : PyData.canLayAll0 qs = true) (hu : A.units + 1 + min (PyData.depthAll qs) p.depth < cLine) : Op2 X A (compareOp .In) d₁ d₂ H (.bool (qs.any fun y => PyData.eqv y p)) H := fun F s v₁ v₂ S a b => by
  obtain ⟨as, ra⟩ := r₁ F s v₁ S a
  obtain ⟨bs, rb⟩ := r₂ F s v₂ S b
  exact SeqAt.in_list_reads rb ra h₂ h₁ hu ⟨F, .rfl, S, rfl⟩
theorem op_notin {d₁ d₂ : D} {p : PyData} {qs : List PyData} (r₁ : RdS X H d₁ p) (r₂ : RdS X H d₂ (.list qs)) (h₁ : p.canLay0 = true) (h₂ : PyData.canLayAll0 qs = true) (hu : A.units + 1 + min (PyData.depthAll qs) p.depth < cLine) : Op2 X A (compareOp .NotIn) d₁ d₂ H (.bool (!qs.any fun y => PyData.eqv y p)) H := fun F s v₁ v₂ S a b => by
  obtain ⟨as, ra⟩ := r₁ F s v₁ S a
  obtain ⟨bs, rb⟩ := r₂ F s v₂ S b
  exact SeqAt.notIn_list_reads rb ra h₂ h₁ hu ⟨F, .rfl, S, rfl⟩
theorem op_notinT {d₁ d₂ : D} {p : PyData} {qs : List PyData} (r₁ : RdS X H d₁ p) (r₂ : RdS X H d₂ (.tuple qs)) (h₁ : p.canLay0 = true) (h₂ : PyData.canLayAll0 qs = true) (hu : A.units + 1 + min (PyData.depthAll qs) p.depth < cLine) : Op2 X A (compareOp .NotIn) d₁ d₂ H (.bool (!qs.any fun y => PyData.eqv y p)) H := fun F s v₁ v₂ S a b => by
  obtain ⟨as, ra⟩ := r₁ F s v₁ S a
  obtain ⟨bs, rb⟩ := r₂ F s v₂ S b
  exact SeqAt.notIn_tuple_reads rb ra h₂ h₁ hu ⟨F, .rfl, S, rfl⟩
-- calls of the machine's own
theorem fit63 {n : Nat} (h : n ≤ sizeLine) : (n : Int) < 2 ^ 63 := Int.lt_of_le_of_lt (Int.ofNat_le.mpr h) (by decide)
theorem RepL.use1 {F : Fz} {vs : List Value} {d : D} {p : List Value → Prop} (r : RepL F vs [d]) (k : ∀ v, d.is F v → p [v]) : p vs := by
  obtain ⟨v, us, rfl, hv, r'⟩ := r.cons_inv
  rw [r'.nil_inv]; exact k v hv
theorem RepL.use2 {F : Fz} {vs : List Value} {d₁ d₂ : D} {p : List Value → Prop} (r : RepL F vs [d₁, d₂]) (k : ∀ v w, d₁.is F v → d₂.is F w → p [v, w]) : p vs := by
  obtain ⟨v, us, rfl, hv, r'⟩ := r.cons_inv
  exact r'.use1 (p := fun us => p (v :: us)) fun w hw => k v w hv hw
theorem CallD.one {f : Value} {d₁ d : D} (h : ∀ F s v, St X H F s → d₁.is F v → wpAny X.M A (call f [v] []) (GotV X H' d F) (fun _ _ => False) s) : CallD X A f [d₁] H d H' := fun F s vs S r =>
  r.use1 (p := fun vs => wpAny X.M A (call f vs []) (GotV X H' d F) (fun _ _ => False) s) fun v hv => h F s v S hv
theorem CallD.two {f : Value} {d₁ d₂ d : D} (h : ∀ F s v w, St X H F s → d₁.is F v → d₂.is F w → wpAny X.M A (call f [v, w] []) (GotV X H' d F) (fun _ _ => False) s) : CallD X A f [d₁, d₂] H d H' := fun F s vs S r =>
  r.use2 (p := fun vs => wpAny X.M A (call f vs []) (GotV X H' d F) (fun _ _ => False) s) fun v w hv hw => h F s v w S hv hw
theorem Sq.use {T : String} {d : D} {ds : List D} {F : Fz} {s : Shared} {v : Value} (q : Sq X H T d ds) (S : St X H F s) (hv : d.is F v) {p : Value → Prop} (k : ∀ l vs n, s.heap.get? l = some { cls := .type T, data := .seq vs n } → RepL F vs.toList ds → vs.size = ds.length → p (.ref l)) : p v := by
  cases q F s v S hv with
  | mk l vs n e f r => rw [e]; exact k l vs n f r (by rw [← Array.length_toList, r.1])
theorem int_use {F : Fz} {i : Int} {v : Value} (hv : (D.int i).is F v) {p : Value → Prop} (k : ∀ t, p (.int i t)) : p v := hv.elim fun t e => e ▸ k t
theorem cd_len {d : D} {ds : List D} (q : Sq X H "list" d ds) (hz : ds.length ≤ sizeLine) : CallD X A (.builtin "len") [d] H (.int ds.length) H := .one fun F s v S hv =>
  q.use (p := fun v => wpAny X.M A (call (.builtin "len") [v] []) (GotV X H (.int ds.length) F) (fun _ _ => False) s) S hv fun l vs n f r e => Calls.call_len_list ⟨_, f, rfl, n, rfl⟩ (fit63 (e ▸ hz)) ⟨F, .rfl, S.tok, _, by rw [e]⟩
theorem cd_lenT {d : D} {ds : List D} (q : Sq X H "tuple" d ds) (hz : ds.length ≤ sizeLine) : CallD X A (.builtin "len") [d] H (.int ds.length) H := .one fun F s v S hv =>
  q.use (p := fun v => wpAny X.M A (call (.builtin "len") [v] []) (GotV X H (.int ds.length) F) (fun _ _ => False) s) S hv fun l vs n f r e => PyProof.Rows.len_tuple ⟨_, f, rfl, n, rfl⟩ (fit63 (e ▸ hz)) ⟨F, .rfl, S.tok, _, by rw [e]⟩
theorem cd_tuple {d : D} {ds : List D} (q : Sq X H "list" d ds) (hz : ds.length ≤ sizeLine) : CallD X A (.type "tuple") [d] H (.tup ds) H := .one fun F s v S hv =>
  q.use (p := fun v => wpAny X.M A (call (.type "tuple") [v] []) (GotV X H (.tup ds) F) (fun _ _ => False) s) S hv fun l vs n f r e => call_tuple_list ⟨_, f, rfl, n, rfl⟩ (fun h' k =>
    have S₁ := S.keeps (h' := h') (tk := s.toks) k
    ⟨_, Fz.put_le S₁.new, S₁.pushF _, _, rfl, .mk vs 0 Fz.put_at (r.mono (Fz.put_le S₁.new))⟩) (e ▸ hz)
/-- a call that makes a new list -/
def CallN (X : Cx) (A : Around) (f : Value) (ds : List D) (H : Hs) (es : List D) (H' : Hs) : Prop :=
  ∀ F s vs, St X H F s → RepL F vs ds → wpAny X.M A (call f vs []) (GotN X H' es F) (fun _ _ => False) s
theorem cn_list {d : D} {T : String} {ds : List D} (hT : T = "list" ∨ T = "tuple") (q : Sq X H T d ds) (hz : ds.length ≤ sizeLine) : CallN X A (.type "list") [d] H ds H := fun F s vs S r =>
  r.use1 (p := fun vs => wpAny X.M A (call (.type "list") vs []) (GotN X H ds F) (fun _ _ => False) s) fun v hv =>
    q.use (p := fun v => wpAny X.M A (call (.type "list") [v] []) (GotN X H ds F) (fun _ _ => False) s) S hv fun l vs n f rr e =>
      call_list_seq l hT f rfl rfl (fun h' c' k hD => ⟨F, _, rfl, .rfl, S.more (tk := s.toks) k hD (Nat.le_refl _) (.mk vs c' rfl rr)⟩) (e ▸ hz)
theorem CallN.d {f : Value} {ds es : List D} (h : CallN X A f ds H es H') : CallD X A f ds H (.lst es) H' := fun F s vs S r =>
  wpAny_mono (h F s vs S r) (fun v s' z => by
    cases z with
    | mk F' a e l S' =>
      subst e
      obtain ⟨F₂, l₂, S₂, r₂⟩ := S'.lst
      exact ⟨F₂, l.trans l₂, S₂, r₂⟩) fun _ _ e => e
theorem new_call {e : Expr} {f : Value} {ds es : List D} (hE : CallE e env) (h : Ev X A (eval (k0 e) env) H (.val f) H₁) (k : Kept X f) (ha : Argz X A (kids e).tail env H₁ ds H₂) (hc : CallN X A f ds H₂ es H') : New X A (eval e env) H es H' := fun F s S =>
  call_at hE (h.mono S fun v F₁ s₁ l₁ S₁ r₁ => by
    cases (r₁ : v = f)
    exact callWith_of (P := fun hh => (Frg X.w).In hh) (by rw [ha.1]; rfl) (fun hh K => k.looks K) (evalArgs_of (ha.1 _) ((ha.2 _).mono S₁ fun vs F₂ s₂ l₂ S₂ r₂ =>
      ⟨S₂.kIn, wpAny_mono (hc F₂ s₂ _ S₂ r₂) (fun v s' z => by cases z with | mk F' a e l S' => exact ⟨F', a, e, (l₁.trans l₂).trans l, S'⟩) fun _ _ e => e⟩)))
theorem cd_range {b : Int} : CallD X A (.type "range") [.int b] H (.rng 0 b) H := .one fun F s v S hv =>
  int_use (p := fun v => wpAny X.M A (call (.type "range") [v] []) (GotV X H (.rng 0 b) F) (fun _ _ => False) s) hv fun t => call_range_1 ⟨_, Fz.put_le S.new, S.pushF _, _, _, _, _, rfl, Fz.put_at⟩
theorem cd_range2 {a b : Int} : CallD X A (.type "range") [.int a, .int b] H (.rng a b) H := .two fun F s v w S hv hw =>
  int_use (p := fun v => wpAny X.M A (call (.type "range") [v, w] []) (GotV X H (.rng a b) F) (fun _ _ => False) s) hv fun t =>
    int_use (p := fun w => wpAny X.M A (call (.type "range") [.int a t, w] []) (GotV X H (.rng a b) F) (fun _ _ => False) s) hw fun u => call_range_2 ⟨_, Fz.put_le S.new, S.pushF _, _, _, _, _, rfl, Fz.put_at⟩
theorem cd_abs {a : Int} : CallD X A (.builtin "abs") [.int a] H (.int (if a < 0 then -a else a)) H := .one fun F s v S hv =>
  int_use (p := fun v => wpAny X.M A (call (.builtin "abs") [v] []) (GotV X H (.int (if a < 0 then -a else a)) F) (fun _ _ => False) s) hv fun t => call_abs_int fun u tk => ⟨F, .rfl, S.tok, _, rfl⟩
theorem cd_int {a : Int} : CallD X A (.type "int") [.int a] H (.int a) H := .one fun F s v S hv =>
  int_use (p := fun v => wpAny X.M A (call (.type "int") [v] []) (GotV X H (.int a) F) (fun _ _ => False) s) hv fun t => call_int_int ⟨F, .rfl, S, _, rfl⟩
theorem cd_intB {b : Bool} : CallD X A (.type "int") [.bool b] H (.int (if b then 1 else 0)) H := .one fun F s v S (hv : v = .bool b) =>
  hv ▸ call_int_bool ⟨F, .rfl, S.tok, _, rfl⟩
-- methods of lists
theorem meth_list {l : Addr} {ds : List D} {name : Str} {id : String} {pl : Sem Bool} {d : D} {es : List D} (q : Sq X H "list" d es) (slot : Slot "list" name id) (hty : typeOf (.builtin id) = pure (.type "method_descriptor")) : MethD X A d name pl H (.builtin id) d := fun F s v S hv => by
  have hv' := hv
  cases q F s v S hv with
  | mk l vs n e f r =>
    subst e
    refine kf_method (h₀ := {}) (L := l + 1) (D := l) (news := [(l, PySem.W.listOf vs n)]) (its := vs) (n := n) (fun p hp => ?_) (List.mem_cons_self) slot hty ⟨_, rfl, F, .rfl, S, hv'⟩
    rcases List.mem_cons.mp hp with rfl | hp
    · exact ⟨f, Nat.ne_of_lt (Nat.lt_succ_self _), rfl⟩
    · cases hp
theorem turned {l : Addr} {ds es : List D} {F : Fz} {s : Shared} {vs us : Array Value} {n : Nat} {f : Array Value → Array Value} (S : St X H F s) (hm : (l, P.lst ds) ∈ H) (u : Up l (.lst es) H H') (ho : s.heap.get? l = some (PySem.W.listOf vs n)) (e : f vs = us) (r : RepL F us.toList es) : St X H' F { s with heap := s.heap.update l (Obj.mapSeq f) } :=
  S.up (tk := s.toks) u (fun b q hb eb => (Heap.get?_update_other _ _ (Ne.symm hb)).trans eb) (Heap.get?_update_self _ ho rfl) (.mk us _ (by rw [← e]; rfl) r)
theorem lst_use {l : Addr} {ds : List D} {F : Fz} {s : Shared} {p : Prop} (S : St X H F s) (hm : (l, P.lst ds) ∈ H) (k : ∀ vs n, s.heap.get? l = some (PySem.W.listOf vs n) → RepL F vs.toList ds → vs.size = ds.length → p) : p := by
  obtain ⟨o, ho, hq⟩ := S.tur _ hm
  cases hq with
  | mk vs n e r => exact k vs n (e ▸ ho) r (by rw [← Array.length_toList, r.1])
theorem cd_append {l : Addr} {ds : List D} {d : D} (hm : (l, P.lst ds) ∈ H) (u : Up l (.lst (ds ++ [d])) H H') (hz : ds.length ≤ sizeLine) : CallD X A (.builtin "list.append") [.ptr l, d] H .none H' := .two fun F s v w S (e : v = .ref l) hw =>
  lst_use S hm fun vs n f r hl => e ▸ call_meets slot_list_append ⟨_, f, rfl⟩ entry_list_append (args_list_append _ _) (PySem.list_append l vs n w (hl ▸ hz)) ⟨f, F, .rfl, turned S hm u f rfl (by rw [Array.toList_push]; exact r.append (.one hw)), rfl⟩
theorem erase_last {vs : Array Value} {n : Nat} (h : vs.size = n + 1) : (vs.eraseIdxIfInBounds (vs.size - 1)).toList = vs.toList.take n := by
  have h1 : n < vs.size := h ▸ Nat.lt_succ_self n
  rw [h, Nat.add_sub_cancel]
  unfold Array.eraseIdxIfInBounds
  rw [dif_pos h1, Array.toList_eraseIdx, List.eraseIdx_eq_take_drop_succ, List.drop_eq_nil_of_le (by rw [Array.length_toList, h]; exact Nat.le_refl _), List.append_nil]
theorem cd_pop {l : Addr} {ds : List D} {d : D} (hm : (l, P.lst (ds ++ [d])) ∈ H) (u : Up l (.lst ds) H H') (hz : ds.length < sizeLine) : CallD X A (.builtin "list.pop") [.ptr l] H d H' := .one fun F s v S (e : v = .ref l) =>
  lst_use S hm fun vs n f r hl => by
    rw [List.length_append] at hl
    obtain ⟨y, hy, hd⟩ := r.get (i := ds.length) (d := d) (by rw [List.getElem?_append_right (Nat.le_refl _), Nat.sub_self]; rfl)
    rw [Array.getElem?_toList] at hy
    exact e ▸ call_meets PySem.F.slot_list_pop ⟨_, f, rfl⟩ PySem.F.entry_list_pop (PySem.F.args_list_pop_1 _) (MeetsSeq.list_pop_last l vs n y (by rw [hl]; exact hy) (by rw [hl]; exact hz)) ⟨f, F, .rfl, turned S hm u f rfl (by
      rw [erase_last hl]; have := r.take ds.length; rwa [List.take_left] at this), hd⟩
theorem cd_extend {l : Addr} {ds es : List D} {d : D} (hm : (l, P.lst ds) ∈ H) (q : Sq X H "list" d es) (u : Up l (.lst (ds ++ es)) H H') (hz : ds.length + es.length ≤ sizeLine) : CallD X A (.builtin "list.extend") [.ptr l, d] H .none H' := .two fun F s v w S (e : v = .ref l) hw =>
  lst_use S hm fun vs n f r h1 => e ▸ q.use (p := fun w => wpAny X.M A (call (.builtin "list.extend") [.ref l, w] []) (GotV X H' .none F) (fun _ _ => False) s) S hw fun b ws n₂ f₂ r₂ h2 => by
    rw [← h1, ← h2] at hz
    exact call_meets PySem.F.slot_list_extend ⟨_, f, rfl⟩ PySem.F.entry_list_extend (PySem.F.args_list_extend_2 _ _) (AutoSeq1.list_extend_list_list_0 l vs n b ws n₂ (by
      rw [Bool.and_eq_true, not_and]; intro _
      exact fun h => absurd (of_decide_eq_true h) (Nat.not_lt.mpr hz)) (Nat.le_trans (Nat.le_add_right _ _) hz) (Nat.le_succ_of_le hz)) ⟨f, f₂, F, .rfl, turned S hm u f rfl (by rw [Array.toList_append]; exact r.append r₂), rfl⟩
end
end Mine
namespace Mine
section
variable {X : Cx} {A : Around} {env : Env} {H H' H₁ H₂ K : Hs} {R : Out → Hs → Prop}
theorem Sq.len {T : String} {d : D} {ds : List D} {F : Fz} {s : Shared} {vs : Array Value} (r : RepL F vs.toList ds) : vs.size = ds.length := by rw [← Array.length_toList, r.1]
theorem ev_item {e : Expr} {d x : D} {ds : List D} {k : Nat} (he : e = .Subscript (k0 e) (k1 e) e.pos) (h : Ev X A (eval (k0 e) env) H d H₁) (hi : Ev X A (eval (k1 e) env) H₁ (.int k) H') (q : Sq X H' "list" d ds) (hx : ds[k]? = some x) (hz : k ≤ sizeLine)
    (hs : ∀ a (u : Tok), subscripted (k1 e) false (.ref a) (.int k u) = operate [.ref a, .int k u] (getItem (.ref a) (.int k u))) : Ev X A (eval e env) H x H' := .at he fun F s S =>
  Subscript_ (two h hi F s S fun v w F₂ s₂ l S₂ r₁ ⟨u, e⟩ => by
    subst e
    cases q F₂ s₂ v S₂ r₁ with
    | mk b vs n e f r =>
      subst e
      obtain ⟨y, hy, hr⟩ := r.get hx
      rw [Array.getElem?_toList] at hy
      exact PyProof.Rows.tail_any ⟨_, f, rfl⟩ slot_list_getitem.lookup (wpAny_getItem_list ⟨_, f, rfl, n, rfl⟩ (Int.natCast_nonneg k) (fit63 hz) hy ⟨F₂, l, S₂, hr⟩) (hs _ _))
theorem seqAt {k n : Nat} (h : k < n) : seqIndex? (k : Int) n = some k := by
  unfold seqIndex?
  rw [if_neg (Int.not_lt.mpr (Int.natCast_nonneg k)), if_pos (by rw [decide_eq_true (Int.natCast_nonneg k), decide_eq_true (Int.ofNat_lt.mpr h)]; rfl)]; rfl
theorem ev_itemT {e : Expr} {d x : D} {ds : List D} {k : Nat} (he : e = .Subscript (k0 e) (k1 e) e.pos) (h : Ev X A (eval (k0 e) env) H d H₁) (hi : Ev X A (eval (k1 e) env) H₁ (.int k) H') (q : Sq X H' "tuple" d ds) (hx : ds[k]? = some x) (hz : k ≤ sizeLine)
    (hs : ∀ a (u : Tok), subscripted (k1 e) false (.ref a) (.int k u) = operate [.ref a, .int k u] (getItem (.ref a) (.int k u))) : Ev X A (eval e env) H x H' := .at he fun F s S =>
  Subscript_ (two h hi F s S fun v w F₂ s₂ l S₂ r₁ ⟨u, e⟩ => by
    subst e
    cases q F₂ s₂ v S₂ r₁ with
    | mk b vs n e f r =>
      subst e
      obtain ⟨y, hy, hr⟩ := r.get hx
      rw [Array.getElem?_toList] at hy
      exact PyProof.Rows.tail_any ⟨_, f, rfl⟩ PyProof.Rows.slot_tuple_getitem.lookup (PyProof.Rows.getItem_tuple ⟨_, f, rfl, n, rfl⟩ (Int.le_trans (by decide) (Int.natCast_nonneg k)) (fit63 hz) (seqAt (Array.getElem?_eq_some_iff.mp hy).1) hy ⟨F₂, l, S₂, hr⟩) (hs _ _))
/-- a slice's part -/
def Prt (X : Cx) (A : Around) (env : Env) (x : Option Expr) (H : Hs) (o : Option Int) (H' : Hs) : Prop :=
  ∀ F s, St X H F s → wpAny X.M A (evalPart x env) (fun v s' => IsPart v o ∧ Got X H' F s') (fun _ _ => False) s
theorem prt_none : Prt X A env none H none H := fun F s S => by rw [evalPart_none]; exact wpAny_pure ⟨.none, F, .rfl, S⟩
theorem prt_some {e : Expr} {i : Int} (h : Ev X A (eval e env) H (.int i) H') : Prt X A env (some e) H (some i) H' := fun F s S => by
  rw [evalPart_some]; exact h.mono S fun v F₁ s₁ l₁ S₁ ⟨t, e⟩ => by subst e; exact ⟨.int i t, F₁, l₁, S₁⟩
theorem new_slice {e : Expr} {lower upper : Option Expr} {d : D} {ds es : List D} {lo hi : Option Int} (he : e = .Subscript (k0 e) (.Slice lower upper none (k1 e).pos) e.pos) (h : Ev X A (eval (k0 e) env) H d H₁) (hl : Prt X A env lower H₁ lo H₂) (hu : Prt X A env upper H₂ hi H') (q : Sq X H' "list" d ds) (hz : ds.length ≤ sizeLine)
    (hp : ∀ (F : Fz) (vs : Array Value), RepL F vs.toList ds → RepL F (slicePick vs lo hi none).toList es) : New X A (eval e env) H es H' := fun F s S => by
  rw [he]
  exact Subscript_ (h.mono S fun v F₁ s₁ l₁ S₁ r₁ => wpAny_Slice (wpAny_mono (hl F₁ s₁ S₁) (fun w s₂ z => z.2.elim fun F₂ l₂ S₂ => wpAny_mono (hu F₂ s₂ S₂) (fun w' s₃ z' => z'.2.elim fun F₃ l₃ S₃ => by
    rw [evalPart_none]
    refine wpAny_pure ?_
    cases q F₃ s₃ v S₃ (d.mono (l₂.trans l₃) r₁) with
    | mk l vs n e f r =>
      subst e
      have S₄ := S₃.keeps (tk := s₃.toks) (h' := s₃.heap.push { cls := .type "slice", data := .fields #[w, w', .none] }) fun b q eb => Heap.get?_push_of_some _ eb
      have f' : (s₃.heap.push { cls := .type "slice", data := .fields #[w, w', .none] }).get? l = _ := Heap.get?_push_of_some _ f
      exact PyProof.Rows.tail_any ⟨_, f', rfl⟩ slot_list_getitem.lookup (wpAny_getItem_list_slice ⟨_, f', rfl, n, rfl⟩ (Heap.IsSliceOf.new ..) z.1 z'.1 .none (fun e => by cases e) ⟨F₃, _, rfl, (l₁.trans l₂).trans l₃, S₄.pushH (tk := s₃.toks) (p := P.lst es) (PySem.W.listOf (slicePick vs lo hi none) 0) (.mk _ _ rfl (hp F₃ vs r))⟩ (by rw [Sq.len (T := "") (d := d) (s := s) r]; exact hz)) rfl) fun _ _ e => e) fun _ _ e => e))
theorem pick_upto {F : Fz} {ds : List D} (b : Nat) (vs : Array Value) (r : RepL F vs.toList ds) : RepL F (slicePick vs none (some (b : Int)) none).toList (ds.take b) := by rw [slicePick_upto']; exact r.take b
theorem pick_from {F : Fz} {ds : List D} (b : Nat) (vs : Array Value) (r : RepL F vs.toList ds) : RepL F (slicePick vs (some (b : Int)) none none).toList (ds.drop b) := by rw [slicePick_from']; exact r.drop b
theorem pick_run {F : Fz} {ds : List D} (a b : Nat) (hab : a ≤ b) (hb : b ≤ ds.length) (vs : Array Value) (r : RepL F vs.toList ds) : RepL F (slicePick vs (some (a : Int)) (some (b : Int)) none).toList ((ds.drop a).take (b - a)) := by
  rw [slicePick_run vs a b (by rw [Sq.len (T := "") (d := .none) (s := {}) r]; exact hb) hab]; exact (r.drop a).take _
-- concatenation, repetition
theorem binop_new {e : Expr} {op : Operator} {d₁ d₂ : D} {es : List D} (he : e = .BinOp (k0 e) op (k1 e) e.pos) (h₁ : Ev X A (eval (k0 e) env) H d₁ H₁) (h₂ : Ev X A (eval (k1 e) env) H₁ d₂ H₂)
    (h : ∀ F s v₁ v₂, St X H₂ F s → d₁.is F v₁ → d₂.is F v₂ → wpAny X.M A (binaryOp op v₁ v₂) (GotN X H' es F) (fun _ _ => False) s) : New X A (eval e env) H es H' := fun F s S => by
  rw [he]
  exact wpAny_BinOp (two h₁ h₂ F s S fun v₁ v₂ F₂ s₂ l S₂ r₁ r₂ => wpAny_mono (h F₂ s₂ v₁ v₂ S₂ r₁ r₂) (fun v s' z => by
    cases z with | mk F' a e l' S' => exact ⟨F', a, e, l.trans l', S'⟩) fun _ _ e => e)
theorem add_lists {d₁ d₂ : D} {ds es : List D} (q₁ : Sq X H "list" d₁ ds) (q₂ : Sq X H "list" d₂ es) (hz : ds.length + es.length ≤ sizeLine) : ∀ F s v₁ v₂, St X H F s → d₁.is F v₁ → d₂.is F v₂ → wpAny X.M A (binaryOp .Add v₁ v₂) (GotN X H (ds ++ es) F) (fun _ _ => False) s := fun F s v₁ v₂ S a b => by
  cases q₁ F s v₁ S a with
  | mk l vs n e f r =>
    cases q₂ F s v₂ S b with
    | mk l₂ vs₂ n₂ e₂ f₂ r₂ =>
      subst e e₂
      refine PySem.P.add_list f f₂ ⟨F, _, rfl, .rfl, S.pushH (tk := s.toks) (p := P.lst (ds ++ es)) (PySem.W.listOf (vs ++ vs₂) 0) (.mk _ _ rfl ?_)⟩ ?_
      · rw [Array.toList_append]; exact r.append r₂
      · rw [Sq.len (T := "") (d := d₁) (s := s) r, Sq.len (T := "") (d := d₁) (s := s) r₂]; exact hz
theorem op_str {x y : Str} (hz : x.length + y.length ≤ sizeLine) : Op2 X A (binaryOp .Add) (.str x) (.str y) H (.str (x ++ y)) H := fun F s v₁ v₂ S ⟨t, e⟩ ⟨u, e'⟩ => by subst e e'; exact PyProof.Rows.add_str (fun t' tk => ⟨F, .rfl, S.tok, _, rfl⟩) hz
/-- the frame's names, for the library's own rules -/
theorem St.fr {L : Addr} {m : List (Str × D)} {F : Fz} {s : Shared} (S : St X H F s) (hm : (L, P.ns m) ∈ H) : ∃ m', Fr {} L s.heap m' ∧ ∀ h', Fr {} L h' m' → ∃ o', h'.get? L = some o' ∧ NsIs m F o' := by
  obtain ⟨o, ho, hq⟩ := S.tur _ hm
  cases hq with
  | mk es ep e k r =>
    refine ⟨nsFind es, ⟨⟨o, es, ep, ho, e, k, fun _ => rfl⟩, (fun b q eb => by cases eb), Nat.zero_le _⟩, fun h' Fh => ?_⟩
    obtain ⟨o', es', ep', ho', hd', hk', hf'⟩ := Fh.ns
    exact ⟨o', ho', .mk es' ep' hd' hk' fun x d hx => by rw [hf']; exact r x d hx⟩
noncomputable def others (h : Heap) (L : Addr) : List (Addr × Obj) := ((List.range h.objs.size).filter (· != L)).filterMap fun a => (h.get? a).map (a, ·)
theorem others_mem {h : Heap} {L : Addr} {q : Addr × Obj} : q ∈ others h L ↔ h.get? q.1 = some q.2 ∧ q.1 ≠ L := by
  unfold others
  rw [List.mem_filterMap]
  constructor
  · rintro ⟨a, ha, e⟩
    rw [List.mem_filter, bne_iff_ne] at ha
    cases hg : h.get? a with
    | none => rw [hg] at e; cases e
    | some o => rw [hg] at e; cases e; exact ⟨hg, ha.2⟩
  · rintro ⟨e, hn⟩
    exact ⟨q.1, List.mem_filter.mpr ⟨List.mem_range.mpr (Heap.lt_size e), bne_iff_ne.mpr hn⟩, by rw [e]; rfl⟩
theorem St.lib {L : Addr} {m : List (Str × D)} {F : Fz} {s : Shared} (S : St X H F s) (hm : (L, P.ns m) ∈ H) : ∃ m', Fr {} L s.heap m' ∧ News {} L s.heap (others s.heap L) ∧ ∀ D o p h', Fr {} L h' m' → News {} L h' ((D, o) :: others s.heap L) → (∀ q ∈ others s.heap L, q.1 < D) → p.is F o → ∀ {tk : Nat}, St X ((D, p) :: H) F { s with heap := h', toks := tk } := by
  obtain ⟨m', Fr₀, back⟩ := S.fr hm
  refine ⟨m', Fr₀, fun q hq => ⟨(others_mem.mp hq).1, (others_mem.mp hq).2, rfl⟩, fun D o p h' Fh N fr hp tk => ?_⟩
  obtain ⟨o', ho', hq'⟩ := back h' Fh
  have k : ∀ b q, b ≠ L → s.heap.get? b = some q → h'.get? b = some q := fun b q hb eb => (N (b, q) (List.mem_cons_of_mem _ (others_mem.mpr ⟨eb, hb⟩))).1
  have u : Up L (P.ns m) H H := by obtain ⟨l, r, e⟩ := List.append_of_mem hm; exact ⟨l, _, r, e, e⟩
  have S₁ := S.up (tk := tk) u k ho' hq'
  have hDL : D ≠ L := (N (D, o) List.mem_cons_self).2.1
  refine ⟨S₁.base, S₁.frz, fun q hq => ?_, ?_, fun q hq => ?_, S₁.gens, S₁.os⟩
  · rcases List.mem_cons.mp hq with rfl | hq
    · exact ⟨o, (N (D, o) List.mem_cons_self).1, hp⟩
    · exact S₁.tur q hq
  · rw [List.map_cons, List.nodup_cons]
    refine ⟨fun h => ?_, S₁.nd⟩
    obtain ⟨q, hq, e2⟩ := List.mem_map.mp h
    obtain ⟨oq, hoq, -⟩ := S.tur q hq
    exact Nat.lt_irrefl _ (fr (D, oq) (others_mem.mpr ⟨e2 ▸ hoq, hDL⟩))
  · rcases List.mem_cons.mp hq with rfl | hq
    · show F D = none
      cases eD : F D with
      | none => rfl
      | some oD => exact absurd (fr (D, oD) (others_mem.mpr ⟨S.frz _ _ eD, hDL⟩)) (Nat.lt_irrefl _)
    · exact S₁.sep q hq
theorem flat_rep (n : Nat) (vs : Array Value) (hv : vs.isEmpty = false) : (List.foldl (fun x1 x2 => x1 ++ x2) #[] (List.replicate (if vs.isEmpty = true then 0 else n) vs)).toList = (List.replicate n vs.toList).flatten := by
  rw [if_neg (by rw [hv]; exact Bool.false_ne_true)]
  have : ∀ (k : Nat) (a : Array Value), (List.foldl (fun x1 x2 => x1 ++ x2) a (List.replicate k vs)).toList = a.toList ++ (List.replicate k vs.toList).flatten := by
    intro k
    induction k with
    | zero => intro a; simp
    | succ k ih => intro a; rw [List.replicate_succ, List.foldl_cons, ih, Array.toList_append, List.replicate_succ, List.flatten_cons, List.append_assoc]
  exact this n #[]
theorem RepL.rep {F : Fz} {v : Value} {d : D} (h : d.is F v) : ∀ n : Nat, RepL F (List.replicate n [v]).flatten (List.replicate n d)
  | 0 => .nil
  | n + 1 => .cons h (RepL.rep h n)
theorem mul_one {L : Addr} {m : List (Str × D)} {d₁ d : D} {n : Nat} (hm : (L, P.ns m) ∈ H) (q₁ : Sq X H "list" d₁ [d]) (hz : n ≤ sizeLine) : ∀ F s v₁ v₂, St X H F s → d₁.is F v₁ → (D.int n).is F v₂ → wpAny X.M A (binaryOp .Mult v₁ v₂) (GotN X H (List.replicate n d) F) (fun _ _ => False) s := fun F s v₁ v₂ S a b => by
  obtain ⟨u, rfl⟩ := b
  cases q₁ F s v₁ S a with
  | mk l vs k e f r =>
    subst e
    obtain ⟨m', Fr₀, N₀, back⟩ := S.lib hm
    have h1 : vs.size = 1 := Sq.len (T := "") (d := d) (s := s) r
    have hv : vs.isEmpty = false := by rw [Array.isEmpty, h1]; rfl
    refine PyProof.Rows.mul_list Fr₀ N₀ f (Int.le_trans (by decide) (Int.natCast_nonneg n)) (fit63 hz) (by rw [h1, Int.toNat_natCast, Nat.one_mul]; exact hz) fun h' Fh N => ⟨F, _, rfl, .rfl, back _ _ (P.lst (List.replicate n d)) h' Fh N (fun q hq => Heap.lt_size (others_mem.mp hq).1) (.mk _ _ rfl ?_)⟩
    rw [Int.toNat_natCast, flat_rep n vs hv]
    obtain ⟨v, us, e, hd, r'⟩ := r.cons_inv
    cases r'.nil_inv
    rw [e]
    exact RepL.rep hd n
end
end Mine
namespace Mine
/-- there is room for n calls more -/
structure Rm (A : Around) (n : Nat) : Prop where
  hh : A.handled = none
  hd : A.depth + n < recursionLimit
  hu : A.units + (4 * n + 100) < cLine
theorem Rm.deeper {A : Around} {n : Nat} {env : Env} (r : Rm A (n + 1)) : Rm (A.deeper env) n :=
  ⟨r.hh, (Nat.succ_add A.depth n).symm ▸ r.hd, Nat.lt_of_le_of_lt (show A.units + 3 + (4 * n + 100) ≤ A.units + (4 * n + 4 + 100) by
    rw [Nat.add_assoc, Nat.add_right_comm, Nat.add_comm 3]; exact Nat.add_le_add_left (Nat.add_le_add_left (by decide) _) _) r.hu⟩
theorem Rm.less {A : Around} {n : Nat} (r : Rm A (n + 1)) : Rm A n :=
  ⟨r.hh, Nat.lt_of_succ_lt r.hd, Nat.lt_of_le_of_lt (Nat.add_le_add_left (Nat.add_le_add_right (Nat.mul_le_mul_left 4 (Nat.le_succ n)) 100) _) r.hu⟩
theorem Rm.lt {A : Around} {n : Nat} (r : Rm A n) : A.depth < recursionLimit := Nat.lt_of_le_of_lt (Nat.le_add_right _ _) r.hd
theorem Rm.fit {A : Around} {n k : Nat} (r : Rm A n) (h : k ≤ 99) : A.units + k < cLine := Nat.lt_of_le_of_lt (Nat.add_le_add_left (Nat.le_trans h (Nat.le_trans (Nat.le_succ 99) (Nat.le_add_left 100 _))) _) r.hu
theorem Rm.fit1 {A : Around} {n k : Nat} (r : Rm A n) (h : k ≤ 98) : A.units + 1 + k < cLine := by
  rw [Nat.add_assoc, Nat.add_comm 1]; exact r.fit (Nat.succ_le_succ h)
theorem under_make {A : Around} {n : Nat} {C : Addr} {rest : List Value} {kw : List (Str × Value)} (r : Rm A (n + 1)) : Rm (A.under (.builtin "type.__call__" ⟨.ref C :: rest, kw⟩)) n :=
  ⟨r.hh, (Nat.succ_add A.depth n).symm ▸ r.hd, Nat.lt_of_le_of_lt (show A.units + 1 + (4 * n + 100) ≤ A.units + (4 * n + 4 + 100) by
    rw [Nat.add_assoc, Nat.add_right_comm, Nat.add_comm 1]; exact Nat.add_le_add_left (Nat.add_le_add_left (by decide) _) _) r.hu⟩
section
variable {X : Cx} {A : Around} {env : Env} {H H' H₁ H₂ K : Hs} {R : Out → Hs → Prop}
variable {ss : List Stmt}
theorem ex_setitem {l : Addr} {d : D} {ds : List D} {k : Nat} (he : ss = .Assign [.Subscript (k0 (z1 ss)) (k1 (z1 ss)) (z1 ss).pos] (z0 ss) (posS ss) :: ss.tail) (h : Ev X A (eval (z0 ss) env) H d H₁) (ho : Ev X A (eval (k0 (z1 ss)) env) H₁ (.ptr l) H₁) (hi : Ev X A (eval (k1 (z1 ss)) env) H₁ (.int k) H₁)
    (hm : (l, P.lst ds) ∈ H₁) (hk : k < ds.length) (hz : k ≤ sizeLine) (u : Up l (.lst (ds.set k d)) H₁ H₂) (hs : swapsWith (z0 ss) (some (.Subscript (k0 (z1 ss)) (k1 (z1 ss)) (z1 ss).pos)) (posS ss).line env = pure false) (kk : Ex X A (execs ss.tail env) H₂ R) : Ex X A (execs ss env) H R := .ss he (ex_cons fun F s S =>
  wpAny_Assign_Subscript (h.mono S fun v F₁ s₁ l₁ S₁ r₁ => ho.mono S₁ fun ov F₂ s₂ l₂ S₂ e => hi.mono S₂ fun iv F₃ s₃ l₃ S₃ ⟨t, e'⟩ => by
    cases e
    subst e'
    obtain ⟨o, ho, hq⟩ := S₃.tur _ hm
    cases hq with
    | mk vs n e r =>
      subst e
      have hv : (k : Int) < vs.size := by rw [Sq.len (T := "") (d := d) (s := s) r]; exact Int.ofNat_lt.mpr hk
      exact ki_setAt ho (Int.natCast_nonneg k) (fit63 hz) hv ⟨F₃, H₂, .next, (l₁.trans l₂).trans l₃, turned S₃ hm u ho rfl (by rw [Int.toNat_natCast, Array.toList_setIfInBounds]; exact r.set (d.mono (l₂.trans l₃) r₁) k), rfl, thn kk⟩) hs)
theorem set_own {C x dx : Addr} {name : Str} {d : D} {v : Value} {fs : List (Str × D)} {F : Fz} {s : Shared} {Q : Unit → Shared → Prop} (Kc : Cls X C) (ht : takerIn (Frg X.w) C name = some none) (S : St X H F s) (hx : F x = some (instObj C dx)) (hm : (dx, P.attrs fs) ∈ H) (u : Up dx (.attrs ((name, d) :: fs)) H H') (hv : d.is F v) (hz : fs.length ≤ sizeLine)
    (h : ∀ s', St X H' F s' → Q () s') : wpAny X.M A (setAttr (.ref x) name v) Q (fun _ _ => False) s := by
  obtain ⟨o, ho, hq⟩ := S.tur _ hm
  have I : InstAt s.heap x (instObj C dx) C (some o) := ⟨S.frz _ _ hx, rfl, rfl, ho⟩
  refine set_plain S.kIn I Kc.sa (osa_open (s := { s with toks := s.toks + 1 }) S.kIn I Kc.po ht fun b => ?_)
  cases hq with
  | mk es n e k z r a =>
    subst e
    obtain ⟨cd, hc, hd'⟩ := any_some (show (clsIn (Frg X.w) C).any (·.hasDict) = true from Kc.dic)
    refine wpAny_bind (wpAny_pure (wpAny_bind (wpAny_bind (wpAny_loadPart (S.frz _ _ hx) (wpAny_bind (Looks.here (s := { s with toks := s.toks + 1 }) (looks_clsIn S.kIn hc) ?_))))))
    rw [hd']
    refine wpAny_pure (a := some dx) (wpAny_bind (wpAny_pure (wpAny_bind ?_)))
    unfold nsSet
    refine wpAny_bind (wpAny_bind (wpAny_askSetting (wpAny_pure (wpAny_bind (wpAny_mkText (wpAny_bind (wpAny_loadPart ho ?_)))))))
    have c : (!es.toArray.any (·.key.isStr name) && es.toArray.any (·.refKey)) = false := by
      have : es.toArray.any (·.refKey) = false := by
        rw [← Array.any_toList]
        cases hb : es.toArray.toList.any (·.refKey) with
        | false => rfl
        | true =>
          obtain ⟨en, hen, hr⟩ := List.any_eq_true.mp hb
          obtain ⟨x, t, hx⟩ := k en hen
          unfold DictEntry.refKey at hr; rw [hx] at hr; cases hr
      rw [this, Bool.and_false]
    show wpAny X.M A.in1 (if aRefKeyMayBeTheName name es.toArray = true then _ else _) _ _ _
    rw [aRefKeyMayBeTheName_at, c]
    refine wpAny_updatePart ho ?_
    have hp := putName_dict name (PyData.keyHash X.w.params name) (.str name (s.toks + 1)) v es n
    have kp := put_all (name := name) (h := PyData.keyHash X.w.params name) (t := s.toks + 1) (v := v) es k
    have g' : (s.heap.update dx (Obj.putName name (PyData.keyHash X.w.params name) (.str name (s.toks + 1)) v)).get? dx = some (dictOf _ _) := Heap.get?_update_self _ ho (by rw [hp]; rfl) |>.trans (congrArg some hp)
    refine wpAny_bind (wpAny_lookBehind g' (pastItsLine_dict (by rw [List.size_toArray]; exact Nat.le_trans kp.2.1 (Nat.succ_le_succ (Nat.le_trans z hz)))) ?_)
    refine wpAny_pure (h _ (S.up u (fun b q hb eb => (Heap.get?_update_other _ _ (Ne.symm hb)).trans eb) g' (.mk _ _ rfl kp.1 (Nat.le_trans kp.2.1 (Nat.succ_le_succ z)) (fun y d' hy => ?_) fun y hy => ?_)))
    · rw [List.lookup_cons] at hy
      by_cases hxy : y = name
      · rw [beq_iff_eq.mpr hxy] at hy
        exact ⟨v, (kp.2.2 y).trans (if_pos hxy.symm), Option.some.inj hy ▸ hv⟩
      · rw [beq_eq_false_iff_ne.mpr hxy] at hy
        exact (r _ _ hy).imp fun u z => ⟨(kp.2.2 y).trans ((if_neg (Ne.symm hxy)).trans z.1), z.2⟩
    · rw [List.lookup_cons] at hy
      by_cases hxy : y = name
      · rw [beq_iff_eq.mpr hxy] at hy
        exact nomatch hy
      · rw [beq_eq_false_iff_ne.mpr hxy] at hy
        exact (kp.2.2 y).trans ((if_neg (Ne.symm hxy)).trans (a _ hy))
def SetA (ss : List Stmt) (name : Str) : Prop := ss = .Assign [.Attribute (k0 (z1 ss)) name (z1 ss).pos] (z0 ss) (posS ss) :: ss.tail
theorem ex_setattrQ {name : Str} {C dx : Addr} {Q : D → Hs → Prop} (he : SetA ss name) (h : EvQ X A (eval (z0 ss) env) H Q) (Kc : Cls X C) (ht : takerIn (Frg X.w) C name = some none) (hs : swapsWith (z0 ss) (some (.Attribute (k0 (z1 ss)) name (z1 ss).pos)) (posS ss).line env = pure false)
    (k : ∀ d H₁, Q d H₁ → ∃ fs H₂, Ev X A (eval (k0 (z1 ss)) env) H₁ (.self C dx) H₁ ∧ (dx, P.attrs fs) ∈ H₁ ∧ Up dx (.attrs ((name, d) :: fs)) H₁ H₂ ∧ fs.length ≤ sizeLine ∧ Ex X A (execs ss.tail env) H₂ R) : Ex X A (execs ss env) H R := .ss he (ex_cons fun F s S =>
  plainObj_wpAny_Assign_Attribute (wpAny_mono (h F s S) (fun v s₁ z => by
    cases z with
    | mk F₁ d H₁ l₁ S₁ r₁ q =>
      obtain ⟨fs, H₂, ho, hm, u, hz, k⟩ := k d H₁ q
      refine ho.mono S₁ fun ov F₂ s₂ l₂ S₂ ⟨x, e, hx⟩ => ?_
      subst e
      exact set_own Kc ht S₂ hx hm u (d.mono l₂ r₁) hz fun s' S' => ⟨F₂, H₂, .next, l₁.trans l₂, S', rfl, thn k⟩) fun _ _ e => e) hs)
theorem ex_setattr {name : Str} {C dx : Addr} {d : D} {fs : List (Str × D)} (he : SetA ss name) (h : Ev X A (eval (z0 ss) env) H d H₁) (Kc : Cls X C) (ht : takerIn (Frg X.w) C name = some none)
    (ho : Ev X A (eval (k0 (z1 ss)) env) H₁ (.self C dx) H₁) (hm : (dx, P.attrs fs) ∈ H₁) (u : Up dx (.attrs ((name, d) :: fs)) H₁ H₂) (hz : Nat.ble fs.length sizeLine = true) (hs : swapsWith (z0 ss) (some (.Attribute (k0 (z1 ss)) name (z1 ss).pos)) (posS ss).line env = pure false) (k : Ex X A (execs ss.tail env) H₂ R) : Ex X A (execs ss env) H R :=
  ex_setattrQ (Q := fun d' H' => d' = d ∧ H' = H₁) he (h.q ⟨rfl, rfl⟩) Kc ht hs fun d' H' q => by rw [q.1, q.2]; exact ⟨fs, H₂, ho, hm, u, Nat.le_of_ble_eq_true hz, k⟩
/-- an own class is called -/
theorem fn_make {C fI : Addr} {ds : List D} {fs : List (Str × D)} {n : Nat} (hA : Rm A (n + 1)) (hm : makesIn (Frg X.w) C = true) (hi : findIn (Frg X.w) (.ref C) "__init__" = some (some (.ref fI))) (hf : typeIn (Frg X.w) (.ref fI) = some (.type "function"))
    (h : ∀ B dx, Rm B n → Fn X B (.ref fI) (.self C dx :: ds) ((dx, .attrs []) :: H) .none ((dx, .attrs fs) :: H)) : Fn X A (.ref C) ds H (.obj C fs) H := fun F s vs S r => by
  have S₁ := S.pushH (p := P.attrs []) (tk := s.toks) emptyDict (.mk [] 0 rfl (fun _ he => by cases he) (Nat.le_refl _) (fun _ _ h => by cases h) fun _ _ => rfl)
  have S₂ := S₁.pushF (tk := s.toks) (instObj C s.heap.objs.size)
  have le := Fz.put_le (o := instObj C s.heap.objs.size) S₁.new
  obtain ⟨hh, g, d, t, os⟩ := s
  refine make_core (makes_of S.kIn hm) (looks_findIn S.kIn hi) (fun self => bind_fn S.kIn self hf) (.inl rfl) ?_
  have e : (hh.push emptyDict).objs.size = hh.objs.size + 1 := Heap.size_push ..
  dsimp only at S₂ le
  refine codeAny_mono (h (A.under (.builtin "type.__call__" ⟨.ref C :: vs, []⟩)) hh.objs.size (under_make hA) _ _ (.ref (hh.objs.size + 1) :: vs) S₂ (.cons ⟨_, rfl, by rw [← e]; exact Fz.put_at⟩ (r.mono le))) fun x s' z => ?_
  cases z with
  | mk v F' e₂ l S' hv =>
    subst e₂
    refine ⟨hv, ?_⟩
    obtain ⟨o, ho, hp, l₂, S₃⟩ := S'.freeze (p := .attrs fs) List.mem_cons_self (.skip .rfl) S'.head_ne
    exact .mk _ _ rfl ((le.trans l).trans l₂) S₃ ⟨_, rfl, .mk hh.objs.size o (l₂ _ _ (l _ _ (by rw [← e]; exact Fz.put_at))) Fz.put_at (hp.mono l₂)⟩
-- index
noncomputable def strHit (y : Str) : Value → Bool
  | .str z _ => z == y
  | _ => false
theorem cd_index {d : D} {xs : List Str} {y : Str} {j : Nat} (q : Sq X H "list" d (xs.map D.str)) (hj : xs[j]? = some y) (hno : ∀ m, m < j → xs[m]? ≠ some y) (hz : j ≤ sizeLine) : CallD X A (.builtin "list.index") [d, .str y] H (.int j) H := fun F s vs S r => by
  obtain ⟨v, us, rfl, hv, r'⟩ := r.cons_inv
  obtain ⟨v₂, us', rfl, ⟨t, rfl⟩, r''⟩ := r'.cons_inv
  cases r''.nil_inv
  cases q F s v S hv with
  | mk l vs n e f rr =>
    subst e
    have at_ : ∀ {i : Nat} {x : Value}, vs[i]? = some x → ∃ z u, x = .str z u ∧ xs[i]? = some z := fun {i x} hx => by
      have hi : i < xs.length := by
        have := (Array.getElem?_eq_some_iff.mp hx).1
        rw [Sq.len (T := "") (d := d) (s := s) rr, List.length_map] at this; exact this
      obtain ⟨w, hw, u, rfl⟩ := rr.get (i := i) (d := .str xs[i]) (by rw [List.getElem?_map, List.getElem?_eq_getElem hi]; rfl)
      rw [Array.getElem?_toList, hx] at hw
      cases hw
      exact ⟨_, u, rfl, List.getElem?_eq_getElem hi⟩
    have hjs : j < vs.size := by rw [Sq.len (T := "") (d := d) (s := s) rr, List.length_map]; exact (List.getElem?_eq_some_iff.mp hj).1
    refine call_meets PySem.F.slot_list_index ⟨_, f, rfl⟩ PySem.F.entry_list_index (PySem.F.args_list_index_2 _ _) (SeqAt.list_indexAt l vs n none #[] (.str y t) (strHit y) j hjs (Int.lt_of_le_of_lt (Int.ofNat_le.mpr hz) (by decide)) ?_ ?_) ⟨f, fun x hx => ?_, F, .rfl, S.tok, _, rfl⟩
    · obtain ⟨z, u, e, hz⟩ := at_ (Array.getElem?_eq_getElem hjs)
      rw [e]; rw [hj] at hz; cases hz; exact beq_self_eq_true _
    · intro m hm hmj
      obtain ⟨z, u, e, hz⟩ := at_ (Array.getElem?_eq_getElem hm)
      rw [e]; exact beq_eq_false_iff_ne.mpr fun e => hno m hmj (e ▸ hz)
    · obtain ⟨i, hi, e⟩ := Array.mem_iff_getElem.mp hx
      obtain ⟨z, u, e2, -⟩ := at_ (Array.getElem?_eq_some_iff.mpr ⟨hi, e⟩)
      rw [e2]; exact SeqAt.EqAt.str_str z u y t
end
end Mine
namespace Mine
section
variable {X : Cx} {A : Around} {env : Env} {H H' H₁ H₂ K : Hs} {R : Out → Hs → Prop} {e : Expr}
-- dicts of ints
theorem DctIs.of {w : World} {ks : List Int} {ds : List D} {F : Fz} {a : Addr} {h : Heap} (k : ∀ b o, F b = some o → h.get? b = some o) (z : DctIs w ks ds F a) : ∃ vs ep, h.DictAt (intKind prog w) a (ks.zip vs) ep ∧ RepL F vs ds ∧ ks.length = vs.length ∧ ks.Nodup ∧ (a == sysModules) = false := by
  cases z with
  | mk o es ep vs f x d kk p n hl s r =>
    have e : ks.length = vs.length := hl.trans r.1.symm
    exact ⟨vs, ep, ⟨o, es, k _ _ f, x, d, kk, p, by rw [List.map_fst_zip (Nat.le_of_eq e)]; exact n⟩, r, e, n, s⟩
theorem valueAt_zip {ks : List Int} {vs : List Value} {i : Nat} {k : Int} {v : Value} (n : ks.Nodup) (h : ks[i]? = some k) (h' : vs[i]? = some v) : valueAt (ks.zip vs) k = some v := by
  have hz : (ks.zip vs)[i]? = some (k, v) := List.getElem?_zip_eq_some.mpr ⟨h, h'⟩
  unfold valueAt
  cases hf : (ks.zip vs).find? fun kv => kv.1 = k with
  | none => exact absurd (by simp) (List.find?_eq_none.mp hf _ (List.mem_of_getElem? hz))
  | some q =>
    obtain ⟨j, hj⟩ := List.mem_iff_getElem?.mp (List.mem_of_find?_eq_some hf)
    have e1 : q.1 = k := of_decide_eq_true (List.find?_some (p := fun kv : Int × Value => decide (kv.1 = k)) hf)
    obtain ⟨a, b⟩ := List.getElem?_zip_eq_some.mp hj
    have : j = i := by
      obtain ⟨hj', ej⟩ := List.getElem?_eq_some_iff.mp a
      obtain ⟨hi', ei⟩ := List.getElem?_eq_some_iff.mp h
      exact (List.getElem_inj n).mp (ej.trans (e1.trans ei.symm))
    subst this
    exact b.symm.trans h'
theorem ev_dget {ks : List Int} {ds : List D} {i : Nat} {k : Int} {x : D} (he : e = .Subscript (k0 e) (k1 e) e.pos) (h : Ev X A (eval (k0 e) env) H (.dct X.w ks ds) H₁) (hi : Ev X A (eval (k1 e) env) H₁ (.int k) H') (hk : ks[i]? = some k) (hx : ds[i]? = some x)
    (hs : ∀ a (u : Tok), subscripted (k1 e) false (.ref a) (.int k u) = operate [.ref a, .int k u] (getItem (.ref a) (.int k u))) : Ev X A (eval e env) H x H' := .at he fun F s S =>
  Subscript_ (two h hi F s S fun v w F₂ s₂ l S₂ r₁ ⟨u, e⟩ => by
    subst e
    obtain ⟨a, rfl, z⟩ := r₁
    obtain ⟨vs, ep, dd, r, hl, n, sm⟩ := z.of S₂.frz
    obtain ⟨y, hy, hr⟩ := r.get hx
    have dm := dd.dictOf.mapOf
    exact PyProof.Rows.tail_any dm.typeIs slot_dict_getitem.lookup (wpAny_getItem_of (knd := intKind prog X.w) (k := k) (by show Value.isInt k (.int k u) = true; exact beq_self_eq_true k) dm (valueAt_zip n hk hy) ⟨F₂, l, S₂.tok, hr⟩) (hs _ _))
theorem cd_dict {ks : List Int} {ds : List D} (hz : ks.length ≤ sizeLine) : CallD X A (.type "dict") [.dct X.w ks ds] H (.dct X.w ks ds) H := fun F s vs S r => by
  obtain ⟨v, us, rfl, ⟨a, rfl, z⟩, r'⟩ := r.cons_inv
  cases r'.nil_inv
  obtain ⟨vs, ep, dd, rr, hl, n, sm⟩ := z.of S.frz
  refine kt_call_dict sm dd.dictOf (by rw [List.length_zip, ← hl, Nat.min_self]; exact hz) fun h' hd hs => ?_
  obtain ⟨o, es, ep', ho, hx, hdat, hk, hp, -⟩ := hd
  have kp : ∀ b q, s.heap.get? b = some q → h'.get? b = some q := fun b q eb => hs.extBut b q (Nat.ne_of_lt (Heap.lt_size eb)) (Heap.get?_push_of_some _ eb)
  have le := Fz.put_le (o := o) S.new
  have big : (s.heap.objs.size == sysModules) = false := by
    have : (279 : Nat) < s.heap.objs.size := by
      have := X.K 279 _ rfl
      exact S.lt (S.base _ _ this)
    exact beq_eq_false_iff_ne.mpr fun e => by rw [e] at this; exact absurd this (by decide)
  refine ⟨F.put s.heap.objs.size o, le, ((S.keeps (h' := h') (tk := s.toks) kp).grow le fun b q eb => ?_), _, rfl, .mk o es ep' vs Fz.put_at hx hdat hk hp n (hl.trans rr.1) big (rr.mono le)⟩
  rcases Fz.put_of eb with ⟨rfl, rfl⟩ | eb
  · exact .inr ⟨ho, fun q hq ee => Nat.lt_irrefl _ (ee ▸ S.mlt hq)⟩
  · exact .inl eb
theorem ints_rep {F : Fz} {vs : List Value} {ns : List Int} (h : IntsAre vs ns) : RepL F vs (ns.map .int) := by
  induction h with
  | nil => exact .nil
  | cons n t _ ih => exact .cons ⟨t, rfl⟩ ih
theorem ints_of {ns : List Int} : ∀ {vs : List Value}, vs.length = ns.length → (∀ (i : Nat) v k, vs[i]? = some v → ns[i]? = some k → ∃ t, v = .int k t) → IntsAre vs ns := by
  induction ns with
  | nil => intro vs h _; rw [List.length_eq_zero_iff.mp h]; exact .nil
  | cons n ns ih =>
    intro vs h a
    cases vs with
    | nil => exact nomatch h
    | cons v vs => exact (a 0 v n rfl rfl).elim fun t e => e ▸ .cons n t (ih (Nat.succ.inj h) fun i v k x y => a (i + 1) v k x y)
theorem cn_sorted {L : Addr} {m : List (Str × D)} {ks : List Int} {ds : List D} (hh : A.handled = none) (hm : (L, P.ns m) ∈ H) (hs : ks.Pairwise (· ≤ ·)) (hz : ks.length < 64) : CallN X A (.builtin "sorted") [.dct X.w ks ds] H (ks.map .int) H := fun F s vs S r => by
  obtain ⟨v, us, rfl, ⟨a, rfl, z⟩, r'⟩ := r.cons_inv
  cases r'.nil_inv
  obtain ⟨vs, ep, dd, rr, hl, n, sm⟩ := z.of S.frz
  obtain ⟨m', F₀, N₀, back⟩ := S.lib hm
  have hlz : (ks.zip vs).length = ks.length := by rw [List.length_zip, ← hl, Nat.min_self]
  refine kdu_sorted (kdl_dict (knd := intKind prog X.w) sm) hh F₀ N₀ dd (by rw [hlz]; exact Nat.le_trans (Nat.le_of_lt hz) (by decide)) fun D h' tk ws Fh N fr hw hv => ?_
  have hI : IntsAre ws ks := ints_of (hw.trans hlz) fun i v k x y => by
    obtain ⟨k', x', e, hk⟩ := hv i v x
    have : k' = k := by
      have := congrArg (Option.map Prod.fst) e
      rw [← List.getElem?_map, List.map_fst_zip (Nat.le_of_eq hl), y] at this
      exact (Option.some.inj this).symm
    subst this
    exact Value.isInt_shape hk
  have S₁ := back D _ (P.lst (ks.map .int)) h' Fh N fr (.mk ws.toArray 0 rfl (ints_rep hI)) (tk := tk)
  obtain ⟨o, ho, -⟩ := S₁.tur (D, _) List.mem_cons_self
  have hD := (N (D, PySem.W.listOf ws.toArray 0) List.mem_cons_self).1
  refine wpAny_call_entry PyProof.Rows.slot_list_sort ⟨_, hD, rfl⟩ PyProof.Rows.entry_list_sort (list_sort_tree (n := 0) (vs := ws) hD hI (by rw [hw, hlz]; exact hz) fun out ns' hO hp hP => ⟨.none, rfl, ?_⟩) (PyProof.Rows.args_list_sort _)
  have e : ns' = ks := lks_uniq hp hP hs
  subst e
  obtain ⟨c, hc⟩ := sortedHeap_at (out := out) hD
  exact ⟨F, D, rfl, .rfl, S₁.up (tk := tk) .head (fun b q hb eb => (sortedHeap_old hb (Heap.lt_size eb)).trans eb) hc (.mk out c rfl (ints_rep hO))⟩
end
end Mine
namespace Mine
section
variable {X : Cx} {A : Around} {env : Env} {H H' H₁ H₂ K : Hs} {R : Out → Hs → Prop} {e : Expr}
theorem pick_to (xs : Array Value) (b : Nat) (h : b ≤ xs.size) : ((List.range b).filterMap fun (k : Nat) => xs[((0 : Int) + (k : Int) * 1).toNat]?) = xs.toList.take b := by
  have e : (fun (k : Nat) => xs[((0 : Int) + (k : Int) * 1).toNat]?) = fun k => xs.toList[k]? := by
    funext k
    rw [Int.zero_add, Int.mul_one, Int.toNat_natCast, Array.getElem?_toList]
  rw [e]
  have h' : b ≤ xs.toList.length := h
  revert h'
  generalize xs.toList = l
  intro h'
  induction b generalizing l with
  | zero => rfl
  | succ b ih =>
    cases l with
    | nil => cases h'
    | cons x l =>
      rw [List.range_succ_eq_map, List.filterMap_cons_some (f := fun k => (x :: l)[k]?) (b := x) rfl, List.filterMap_map, List.take_succ_cons]
      exact congrArg (x :: ·) (ih (Nat.le_of_succ_le h) l (Nat.le_of_succ_le_succ h'))
theorem slice_to {sl : Addr} {b n : Nat} {u : Tok} {s : Shared} {E : Value → Shared → Prop} {Q : Int × Int × Nat → Shared → Prop} (hs : s.heap.IsSliceOf sl .none (.int b u) .none) (hb : b < n) (h : Q ((0 : Int), 1, b) s) :
    wpAny X.M A (Builtin.Slice.sliceApplied (.ref sl) (pure (n : Int))) Q E s := by
  obtain ⟨os, hos, hcs, hds⟩ := id hs
  unfold Builtin.Slice.sliceApplied Builtin.Slice.sliceFields
  refine wpAny_bind (wpAny_bind (wpAny_field hos hds (x := .none) rfl (wpAny_bind (wpAny_field hos hds (x := .int b u) rfl (wpAny_bind (wpAny_field hos hds (x := .none) rfl (wpAny_pure ?_)))))))
  refine wpAny_bind (slicePart_none ?_)
  show wpAny _ _ (if ((1 : Int) == 0) = true then _ else _) _ _ s
  rw [if_neg (by decide)]
  refine wpAny_bind (slicePart_none (wpAny_bind (slicePart_int (wpAny_bind (wpAny_pure ?_)))))
  have e : Builtin.Slice.sliceAdjust none (some (b : Int)) 1 (n : Int) = (0, (b : Int)) := by
    unfold Builtin.Slice.sliceAdjust
    have h1 : ¬ ((1 : Int) < 0) := by decide
    show ((if (1 : Int) < 0 then _ else (if (1 : Int) < 0 then (-1 : Int) else 0)), (if (b : Int) < 0 then _ else min (b : Int) (if (1 : Int) < 0 then (n : Int) - 1 else n))) = _
    rw [if_neg h1, if_neg h1, if_neg h1, if_neg (Int.not_lt.mpr (Int.natCast_nonneg b)), Int.min_eq_left (Int.ofNat_le.mpr (Nat.le_of_lt hb))]
  have e2 : Builtin.Slice.slicePlaces 0 (b : Int) 1 = b := by
    unfold Builtin.Slice.slicePlaces
    rw [if_pos (by decide), Int.ediv_one, Int.sub_zero, Int.sub_add_cancel]
    cases b with
    | zero => rfl
    | succ b => rw [if_pos (Int.natCast_pos.mpr (Nat.succ_pos b))]; rfl
  show wpAny _ _ (match Builtin.Slice.sliceAdjust none (some (b : Int)) 1 (n : Int) with | (lo, hi) => pure (lo, (1 : Int), Builtin.Slice.slicePlaces lo hi 1)) _ _ s
  rw [e]
  show wpAny _ _ (pure ((0 : Int), (1 : Int), Builtin.Slice.slicePlaces 0 (b : Int) 1)) _ _ s
  rw [e2]
  exact wpAny_pure h
theorem item_to {t sl : Addr} {vs : Array Value} {b : Nat} {u : Tok} {s : Shared} {E : Value → Shared → Prop} {Q : Value → Shared → Prop} (ht : IsTup s.heap t vs) (hs : s.heap.IsSliceOf sl .none (.int b u) .none) (hb : b < vs.size)
    (h : Q (.ref s.heap.objs.size) { s with heap := s.heap.push { cls := .type "tuple", data := .seq (vs.toList.take b).toArray } }) (hz : vs.size ≤ sizeLine) : wpAny X.M A (getItem (.ref t) (.ref sl)) Q E s := by
  have hd : sizeOk (.seq (vs.toList.take b).toArray) := by
    show (vs.toList.take b).toArray.size ≤ sizeLine
    rw [List.size_toArray, List.length_take, Array.length_toList]
    exact Nat.le_trans (Nat.min_le_right _ _) hz
  obtain ⟨os, hos, hcs, hds⟩ := id hs
  have hTs : s.TypeIs (.ref sl) "slice" := ⟨os, hos, hcs⟩
  unfold getItem
  try with_reducible refine wpAny_holding ?_
  first | refine wpAny_bind (wpAny_pure ?_) | skip
  refine wpAny_bind (wpAny_sequenceKey ht.typeIs (by decide) ?_)
  refine wpAny_bind (wpAny_callSpecial?_slot (name := Str.ofString "__getitem__") ht.typeIs PyProof.Rows.slot_tuple_getitem (wpAny_call_entry PyProof.Rows.slot_tuple_getitem ht.typeIs PyProof.Rows.entry_tuple_getitem ?_ (args_tuple_getitem _ _)))
  show wpAny _ _ (Builtin.Tuple.tupleItemsOf (.ref t) >>= _) _ _ s
  refine wpAny_bind (tupleItemsOf_ ht (wpAny_bind (wpAny_typeOf hTs ?_)))
  rw [if_pos (by decide)]
  refine wpAny_bind (slice_to hs hb ?_)
  show wpAny _ _ (if ((0 : Int) == 0 && (1 : Int) == 1 && b == vs.size) = true then _ else _) _ _ s
  rw [if_neg (by rw [beq_eq_false_iff_ne.mpr (Nat.ne_of_lt hb), Bool.and_false]; exact Bool.false_ne_true), pick_to vs b (Nat.le_of_lt hb)]
  first
    | exact wpAny_bind (m := Builtin.Tuple.tupleExact _) (wpAny_newObj_type (wpAny_pure ⟨_, rfl, wpAny_pure h⟩) hd)
    | exact wpAny_bind (wpAny_bind (m := Builtin.Tuple.tupleExact _) (wpAny_newObj_type (wpAny_pure (wpAny_pure ⟨_, rfl, wpAny_pure h⟩)) hd))
    | exact wpAny_bind (wpAny_bind (m := Builtin.Tuple.tupleExact _) (wpAny_newObj_type (wpAny_pure ⟨_, rfl, wpAny_pure h⟩) hd))
theorem ev_to {d : D} {ds : List D} {b : Nat} (he : e = .Subscript (k0 e) (.Slice none (some (k0 (k1 e))) none (k1 e).pos) e.pos) (h : Ev X A (eval (k0 e) env) H d H₁) (hu : Ev X A (eval (k0 (k1 e)) env) H₁ (.int b) H') (q : Sq X H' "tuple" d ds) (hb : b < ds.length) (hz : ds.length ≤ sizeLine) : Ev X A (eval e env) H (.tup (ds.take b)) H' := .at he fun F s S =>
  Subscript_ (h.mono S fun v F₁ s₁ l₁ S₁ r₁ => wpAny_Slice (by
    rw [evalPart_none, evalPart_some]
    refine wpAny_pure (hu.mono S₁ fun w F₂ s₂ l₂ S₂ ⟨u, e⟩ => ?_)
    subst e
    refine wpAny_pure ?_
    cases q F₂ s₂ v S₂ (d.mono l₂ r₁) with
    | mk l vs n e f r =>
      subst e
      have hl : vs.size = ds.length := Sq.len (T := "") (d := d) (s := s) r
      have S₄ := S₂.keeps (tk := s₂.toks) (h' := s₂.heap.push { cls := .type "slice", data := .fields #[.none, .int b u, .none] }) fun b q eb => Heap.get?_push_of_some _ eb
      have f' : (s₂.heap.push { cls := .type "slice", data := .fields #[.none, .int b u, .none] }).get? l = _ := Heap.get?_push_of_some _ f
      exact PyProof.Rows.tail_any ⟨_, f', rfl⟩ PyProof.Rows.slot_tuple_getitem.lookup (item_to ⟨_, f', rfl, n, rfl⟩ (Heap.IsSliceOf.new ..) (by rw [hl]; exact hb) ⟨_, (l₁.trans l₂).trans (Fz.put_le S₄.new), S₄.pushF _, _, rfl, .mk _ 0 Fz.put_at ((r.take b).mono (Fz.put_le S₄.new))⟩ (by rw [hl]; exact hz)) rfl))
end
end Mine
namespace Mine
theorem keys_none {X : Cx} {A : Around} {l : Addr} {vs : Array Value} {n : Nat} {s : Shared} {Q : Option Value → Shared → Prop} {E : Value → Shared → Prop} (f : s.heap.get? l = some (PySem.W.listOf vs n)) (hA : A.handled = none)
    (h : ∀ h' tk, (∀ b o, s.heap.get? b = some o → h'.get? b = some o) → Q none { s with heap := h', toks := tk }) : wpAny X.M A (getAttr? (.ref l) "keys") Q E s := by
  obtain ⟨hp, g, d, tk, os⟩ := s
  have hT : ∀ tk', (⟨hp, g, d, tk', os⟩ : Shared).TypeIs (.ref l) "list" := fun _ => ⟨_, f, rfl⟩
  have f1 := sub_AttributeError
  have f3 := PySem.F.slot_list_getattribute.lookup
  have f4 := PySem.F.slot_list_getattribute.bind (.ref l)
  have f5 := am_list_getattr_none
  have hmiss : typeLookup (.type "list") "keys" = pure none := am_miss_of_fast (by decide +kernel)
  unfold getAttr? getAttrBy? getAttrBy
  repeat (any_goals (first | assumption | exact hT _ | ((with_reducible show wpAny _ _ (call (Value.builtin "list.__getattribute__") _ _) _ _ _); refine call_meets PySem.F.slot_list_getattribute (hT _) am_entry_list_getattribute (PySem.F.args_list_getattribute_2 _ _) (meets_getattribute_miss_list l vs n #[] "keys" _ hmiss (by decide) (by decide)) ⟨f, hA, fun h' tk' e hx' => ?_⟩) | wp_step))
  obtain ⟨t', u', he⟩ := hx'.there
  show wpAny _ _ (getattributeRaised _ _ _ _ _ _ _) _ _ _
  unfold getattributeRaised
  repeat (any_goals (first | assumption | wp_step))
  exact h _ _ hx'.keeps
theorem plain_upd : plainId "dict.update.loop" = true := by decide +kernel
theorem entry_upd : entryFor table "dict.update.loop" = some Builtin.«dict.update.loop» := entryFor_of_tree (by kernel_rfl)
theorem stored_new {kvs : List (Int × Value)} {k : Int} {v : Value} (h : k ∉ kvs.map (·.1)) : stored kvs k v = kvs ++ [(k, v)] := by
  unfold stored
  rw [if_neg]
  intro hc
  obtain ⟨q, hq, e⟩ := List.any_eq_true.mp hc
  exact h (of_decide_eq_true e ▸ List.mem_map_of_mem (f := fun q : Int × Value => q.1) hq)
/-- the pairs as they stand in a list -/
def PairsAt (h : Heap) (vs : Array Value) (kvs : List (Int × Value)) : Prop := vs.size = kvs.length ∧ ∀ (j : Nat) q, kvs[j]? = some q → ∃ (a : Addr) (t : Tok) (n : Nat), vs[j]? = some (.ref a) ∧ h.get? a = some { cls := .type "tuple", data := .seq #[.int q.1 t, q.2] n }
theorem upd_loop {X : Cx} {A : Around} {d it l : Addr} {vs : Array Value} {n : Nat} {kvs : List (Int × Value)} {R : Result → Shared → Prop} {s : Shared} (hA : A.handled = none) (hn : (kvs.map (·.1)).Nodup) (hz : kvs.length ≤ 64) (f : s.heap.get? l = some (PySem.W.listOf vs n)) (hp : PairsAt s.heap vs kvs) (hdi : d ≠ it)
    (hk : ∀ h' tk, h'.DictOf (intKind prog X.w) d kvs → (∀ b o, s.heap.get? b = some o → h'.get? b = some o) → R (.ok (.ret .none)) { s with heap := h', toks := tk }) :
    ∀ m j h' tk, kvs.length - j = m → j ≤ kvs.length → h'.DictOf (intKind prog X.w) d (kvs.take j) → h'.IsListIter it l j → (∀ b o, s.heap.get? b = some o → b ≠ d ∧ b ≠ it ∧ h'.get? b = some o) →
      codeAny X.M A (.builtin "dict.update.loop" ⟨[.ref d, .ref it, rawInt j, .none], []⟩) R { s with heap := h', toks := tk } := by
  intro m
  induction m with
  | zero =>
    intro j h' tk hm hj hd hi ko
    have e : j = kvs.length := by omega
    subst e
    refine codeAny_builtin entry_upd ?_
    rw [Around.under_plainId plain_upd _]
    unfold Builtin.«dict.update.loop»
    refine wpAny_bind (wpAny_pyNext_list_end (A := A.in1) hA (hit := hi) (hl := ⟨_, (ko _ _ f).2.2, rfl, n, rfl⟩) (Array.getElem?_eq_none (Nat.le_of_eq hp.1)) fun h₁ he => ?_)
    rw [List.take_length] at hd
    refine wpAny_bind (wpAny_pure (wpAny_pure (hk _ _ ?_ fun b o eb => he b o (ko b o eb).2.1 (ko b o eb).2.2)))
    obtain ⟨o, es, ep, ho, r⟩ := hd
    exact ⟨o, es, ep, he d o hdi ho, r⟩
  | succ m ih =>
    intro j h' tk hm hj hd hi ko
    have hlt : j < kvs.length := by omega
    obtain ⟨a, t, na, hv, ha⟩ := hp.2 j kvs[j] (List.getElem?_eq_getElem hlt)
    refine codeAny_builtin entry_upd ?_
    rw [Around.under_plainId plain_upd _]
    unfold Builtin.«dict.update.loop»
    refine wpAny_bind (wpAny_pyNext_list_item (hit := hi) (hl := ⟨_, (ko _ _ f).2.2, rfl, n, rfl⟩) hv fun h₁ hi₁ hs₁ => ?_)
    have ha₁ : h₁.get? a = some { cls := .type "tuple", data := .seq #[.int kvs[j].1 t, kvs[j].2] na } := hs₁.extBut _ _ (ko _ _ ha).2.1 (ko _ _ ha).2.2
    have hd₁ : h₁.DictOf (intKind prog X.w) d (kvs.take j) := let ⟨o, es, ep, ho, r⟩ := hd; ⟨o, es, ep, hs₁.extBut d o hdi ho, r⟩
    have fresh : kvs[j].1 ∉ (kvs.take j).map (·.1) := fun hmem => by
      rw [List.map_take] at hmem
      obtain ⟨i, hi', e⟩ := List.mem_take_iff_getElem.mp hmem
      have hi2 : i < j := by omega
      have := (List.pairwise_iff_getElem.mp hn) i j (by rw [List.length_map]; omega) (by rw [List.length_map]; exact hlt) hi2
      rw [e, List.getElem_map] at this
      exact this rfl
    refine wpAny_bind (wpAny_holding (wpAny_bind (wpAny_tryCatch ?_)))
    unfold Builtin.Dict.pairItems
    refine wpAny_bind (wpAny_typeOf ⟨_, ha₁, rfl⟩ ?_)
    rw [if_pos (by decide)]
    refine wpAny_bind (wpAny_seqItems ha₁ rfl (wpAny_pure (wpAny_holding ?_)))
    refine wpAny_dictSet_pairs (knd := intKind prog X.w) (k := kvs[j].1) (beq_self_eq_true _) hd₁ fun h₂ hd₂ hs₂ => ?_
    rw [stored_new fresh] at hd₂
    refine wpAny_pure ⟨plainId_quiet plain_upd _, ?_⟩
    have e : rawInt ((j : Int) + 1) = rawInt ((j + 1 : Nat) : Int) := rfl
    rw [e]
    refine ih (j + 1) h₂ _ (by omega) hlt (by rw [List.take_succ_eq_append_getElem hlt]; exact hd₂) (hi₁.extBut hs₂.extBut (Ne.symm hdi)) fun b o eb => ?_
    obtain ⟨b1, b2, b3⟩ := ko b o eb
    exact ⟨b1, b2, hs₂.extBut b o b1 (hs₁.extBut b o b2 b3)⟩
noncomputable def pairD (q : Int × D) : D := .tup [.int q.1, q.2]
theorem pairs_at {F : Fz} {h : Heap} (k : ∀ b o, F b = some o → h.get? b = some o) {vs : Array Value} : ∀ {qs : List (Int × D)}, RepL F vs.toList (qs.map pairD) → ∃ us, RepL F us (qs.map (·.2)) ∧ PairsAt h vs ((qs.map (·.1)).zip us) := fun {qs} r => by
  have at_ : ∀ (j : Nat) (q : Int × D), qs[j]? = some q → ∃ (a : Addr) (t : Tok) (n : Nat) (u : Value), vs[j]? = some (.ref a) ∧ h.get? a = some { cls := .type "tuple", data := .seq #[.int q.1 t, u] n } ∧ q.2.is F u := fun j q hq => by
    obtain ⟨v, hv, a, e, I⟩ := r.get (i := j) (d := pairD q) (by rw [List.getElem?_map, hq]; rfl)
    subst e
    rw [Array.getElem?_toList] at hv
    cases I with
    | mk ws n f rr =>
      obtain ⟨v₁, us, e₁, ⟨t, e₂⟩, r'⟩ := rr.cons_inv
      obtain ⟨v₂, us', e₃, r₂, r''⟩ := r'.cons_inv
      cases r''.nil_inv
      subst e₂ e₃
      have : ws = #[.int q.1 t, v₂] := Array.toList_inj.mp e₁
      subst this
      exact ⟨a, t, n, v₂, hv, k _ _ f, r₂⟩
  have : ∀ (l : List (Int × D)) (i : Nat), (∀ j q, l[j]? = some q → qs[i + j]? = some q) → ∃ us, RepL F us (l.map (·.2)) ∧ ∀ j q, ((l.map (·.1)).zip us)[j]? = some q → ∃ (a : Addr) (t : Tok) (n : Nat), vs[i + j]? = some (.ref a) ∧ h.get? a = some { cls := .type "tuple", data := .seq #[.int q.1 t, q.2] n } := by
    intro l
    induction l with
    | nil => exact fun i _ => ⟨[], .nil, fun j q hq => by cases j <;> cases hq⟩
    | cons p l ih =>
      intro i hl
      obtain ⟨us, ru, hu⟩ := ih (i + 1) fun j q hq => by rw [Nat.add_right_comm]; exact hl (j + 1) q hq
      obtain ⟨a, t, n, u, h1, h2, h3⟩ := at_ i p (hl 0 p rfl)
      refine ⟨u :: us, .cons h3 ru, fun j q hq => ?_⟩
      cases j with
      | zero => cases hq; exact ⟨a, t, n, h1, h2⟩
      | succ j =>
        obtain ⟨a, t, n, x, y⟩ := hu j q hq
        exact ⟨a, t, n, by rw [← x, Nat.add_right_comm]; rfl, y⟩
  obtain ⟨us, ru, hu⟩ := this qs 0 fun j q hq => by rw [Nat.zero_add]; exact hq
  have hl := r.1
  rw [Array.length_toList, List.length_map] at hl
  have hl2 := ru.1
  rw [List.length_map] at hl2
  exact ⟨us, ru, by rw [hl, List.length_zip, List.length_map, hl2, Nat.min_self], fun j q hq => by have := hu j q hq; rwa [Nat.zero_add] at this⟩
theorem cd_dictP {X : Cx} {A : Around} {H : Hs} {qs : List (Int × D)} (hA : A.handled = none) (hn : (qs.map (·.1)).Nodup) (hz : qs.length ≤ 64) : CallD X A (.type "dict") [.lst (qs.map pairD)] H (.dct X.w (qs.map (·.1)) (qs.map (·.2))) H := fun F s vs S r => by
  obtain ⟨v, us, rfl, ⟨l, rfl, I⟩, r'⟩ := r.cons_inv
  cases r'.nil_inv
  cases I with
  | mk vs n f rr =>
    obtain ⟨us, ru, hp⟩ := pairs_at S.frz rr
    have hl : (qs.map (·.1)).length = us.length := by rw [List.length_map, ru.1, List.length_map]
    have hz' : ((qs.map (·.1)).zip us).length ≤ 64 := by rw [List.length_zip, ← hl, Nat.min_self, List.length_map]; exact hz
    have hn' : (((qs.map (·.1)).zip us).map (·.1)).Nodup := by rw [List.map_fst_zip (Nat.le_of_eq hl)]; exact hn
    have fl := S.frz _ _ f
    refine callType_codes (Q₁ := fun obj s₁ => obj = .ref s.heap.objs.size ∧ s₁ = { s with heap := s.heap.push { cls := .type "dict", data := .dict #[] } }) PySem.F.kt_called_dict (PySem.F.kt_typeCall_dict_1 _) PySem.F.entry_dict_init (kt_code_dict_new _ ⟨rfl, rfl⟩) ?_
    rintro obj s₁ ⟨rfl, rfl⟩
    have hnew : (s.heap.push { cls := .type "dict", data := .dict #[] }).DictOf (intKind prog X.w) s.heap.objs.size [] := Heap.DictOf.new s.heap
    have fl₁ : (s.heap.push { cls := .type "dict", data := .dict #[] }).get? l = some (PySem.W.listOf vs n) := Heap.get?_push_of_some _ fl
    refine ⟨hnew.typeIs, PySem.F.args_dict_init_2 _ _, ?_⟩
    unfold Builtin.«dict.__init__»
    refine wpAny_bind ?_
    unfold Builtin.Dict.selfAndRest
    refine wpAny_bind (wpAny_notOrdered_dict hnew.typeIs ?_)
    show wpAny _ _ (pure (s.heap.objs.size, [Value.ref l])) _ _ _
    refine wpAny_pure ?_
    show wpAny _ _ (Builtin.Dict.updateFrom "dict.__init__" s.heap.objs.size (.ref l) [] .none) _ _ _
    unfold Builtin.Dict.updateFrom
    refine wpAny_bind (wpAny_typeOf ⟨_, fl₁, rfl⟩ ?_)
    rw [if_pos (by decide)]
    refine wpAny_bind (keys_none fl₁ hA fun h' tk k => ?_)
    refine wpAny_bind (wpAny_rule (wpAny_bind (wpAny_pyIter_list (hl := ⟨_, k _ _ fl₁, rfl, n, rfl⟩) ?_)))
    refine wpAny_pure ⟨plainId_quiet plain_upd _, ?_⟩
    have szk : s.heap.objs.size < h'.objs.size := by
      obtain ⟨o, es, ep, ho, -⟩ := hnew
      exact Heap.lt_size (k _ _ ho)
    have kk : ∀ b o, s.heap.get? b = some o → b ≠ s.heap.objs.size ∧ b ≠ h'.objs.size ∧ (h'.push { cls := .type "list_iterator", data := .fields #[.ref l, .int 0 0] }).get? b = some o := fun b o eb =>
      have e1 := k b o (Heap.get?_push_of_some _ eb)
      ⟨Nat.ne_of_lt (Heap.lt_size eb), Nat.ne_of_lt (Heap.lt_size e1), Heap.get?_push_of_some _ e1⟩
    refine upd_loop (X := X) (A := A.in1) (s := s) (R := wants (fun r s₂ => r = .none ∧ GotV X H (D.dct X.w (qs.map (·.1)) (qs.map (·.2))) F (.ref s.heap.objs.size) s₂) fun _ _ => False) (kvs := (qs.map (·.1)).zip us) (show A.in1.handled = none from hA) hn' hz' fl hp (Nat.ne_of_lt szk) (fun h₂ tk₂ hd k₂ => ⟨rfl, ?_⟩) _ 0 _ tk rfl (Nat.zero_le _) ?_ ⟨_, Heap.get?_push_size _ rfl, rfl, rfl⟩ kk
    · obtain ⟨o, es, ep', ho, hx, hdat, hkk, hpp, -⟩ := hd
      have le := Fz.put_le (o := o) S.new
      have big : (s.heap.objs.size == sysModules) = false := by
        have : (279 : Nat) < s.heap.objs.size := S.lt (S.base _ _ (X.K 279 _ rfl))
        exact beq_eq_false_iff_ne.mpr fun e => by rw [e] at this; exact absurd this (by decide)
      refine ⟨F.put s.heap.objs.size o, le, ((S.keeps (h' := h₂) (tk := tk₂) k₂).grow le fun b q eb => ?_), _, rfl, .mk o es ep' us Fz.put_at hx hdat hkk hpp hn (by rw [hl, ru.1]) big (ru.mono le)⟩
      rcases Fz.put_of eb with ⟨rfl, rfl⟩ | eb
      · exact .inr ⟨ho, fun q hq ee => Nat.lt_irrefl _ (ee ▸ S.mlt hq)⟩
      · exact .inl eb
    · obtain ⟨o, es, ep, ho, r⟩ := hnew
      exact ⟨o, es, ep, Heap.get?_push_of_some _ (k _ _ ho), r⟩
end Mine
namespace Mine
section
variable {X : Cx} {A : Around} {env : Env} {H H' H₁ H₂ K Z : Hs} {R : Out → Hs → Prop} {e : Expr}
/-- a call, its answer told with its state -/
inductive GotRQ (X : Cx) (Q : D → Hs → Prop) (F : Fz) (x : Result) (s' : Shared) : Prop
  | mk (v : Value) (F' : Fz) (d : D) (H' : Hs) (e : x = .ok (.ret v)) (l : Le F F') (S : St X H' F' s') (r : d.is F' v) (q : Q d H')
def FnQ (X : Cx) (A : Around) (f : Value) (ds : List D) (H : Hs) (Q : D → Hs → Prop) : Prop :=
  ∀ F s vs, St X H F s → RepL F vs ds → codeAny X.M A (.call f ⟨vs, []⟩) (GotRQ X Q F) s
def CallQ (X : Cx) (A : Around) (f : Value) (ds : List D) (H : Hs) (Q : D → Hs → Prop) : Prop :=
  ∀ F s vs, St X H F s → RepL F vs ds → wpAny X.M A (call f vs []) (GotQ X Q F) (fun _ _ => False) s
theorem FnQ.call {f : Value} {ds : List D} {Q : D → Hs → Prop} (h : FnQ X A f ds H Q) : CallQ X A f ds H Q := fun F s vs S r =>
  wpAny_call (codeAny_mono (h F s vs S r) fun r s' z => by cases z with | mk v F' d H' e l S r q => cases e; exact ⟨F', d, H', l, S, r, q⟩)
theorem Fn.q {f : Value} {ds : List D} {d : D} {Q : D → Hs → Prop} (h : Fn X A f ds H d H') (q : Q d H') : FnQ X A f ds H Q := fun F s vs S r =>
  codeAny_mono (h F s vs S r) fun r s' z => by cases z with | mk v F' e l S r => exact ⟨v, F', d, H', e, l, S, r, q⟩
theorem FnQ.fn {f : Value} {ds : List D} {d : D} (h : FnQ X A f ds H fun d' K => d' = d ∧ K = H') : Fn X A f ds H d H' := fun F s vs S r =>
  codeAny_mono (h F s vs S r) fun r s' z => by cases z with | mk v F' d H' e l S r q => obtain ⟨rfl, rfl⟩ := q; exact ⟨v, F', e, l, S, r⟩
theorem FnQ.weak {f : Value} {ds : List D} {Q Q' : D → Hs → Prop} (h : FnQ X A f ds H Q) (k : ∀ d K, Q d K → Q' d K) : FnQ X A f ds H Q' := fun F s vs S r =>
  codeAny_mono (h F s vs S r) fun r s' z => by cases z with | mk v F' d H' e l S r q => exact ⟨v, F', d, H', e, l, S, r, k _ _ q⟩
theorem EvQ.weak {t : Sem Value} {Q Q' : D → Hs → Prop} (h : EvQ X A t H Q) (k : ∀ d K, Q d K → Q' d K) : EvQ X A t H Q' := fun F s S =>
  wpAny_mono (h F s S) (fun v s' z => by cases z with | mk F' d H' l S r q => exact ⟨F', d, H', l, S, r, k _ _ q⟩) fun _ _ e => e
/-- behind an answer that is told with its state -/
theorem EvQ.mono {t : Sem Value} {Q : D → Hs → Prop} (h : EvQ X A t H Q) {F : Fz} {s : Shared} (S : St X H F s) {P : Value → Shared → Prop} {E : Value → Shared → Prop}
    (k : ∀ v F' s' d H', Le F F' → St X H' F' s' → d.is F' v → Q d H' → P v s') : wpAny X.M A t P E s := wpAny_mono (h F s S) (fun v s' z => by cases z with | mk F' d H' l S r q => exact k v F' s' d H' l S r q) fun _ _ e => e.elim
theorem evq_call {f : Value} {ds : List D} {Q : D → Hs → Prop} (hE : CallE e env) (h : Ev X A (eval (k0 e) env) H (.val f) H₁) (k : Kept X f) (ha : Argz X A (kids e).tail env H₁ ds H₂) (hc : CallQ X A f ds H₂ Q) : EvQ X A (eval e env) H Q := fun F s S =>
  call_at hE (h.mono S fun v F₁ s₁ l₁ S₁ r₁ => by
    cases (r₁ : v = f)
    exact callWith_of (P := fun hh => (Frg X.w).In hh) (by rw [ha.1]; rfl) (fun hh K => k.looks K) (evalArgs_of (ha.1 _) ((ha.2 _).mono S₁ fun vs F₂ s₂ l₂ S₂ r₂ =>
      ⟨S₂.kIn, wpAny_mono (hc F₂ s₂ _ S₂ r₂) (fun v s' z => by cases z with | mk F' d H' l S' r q => exact ⟨F', d, H', (l₁.trans l₂).trans l, S', r, q⟩) fun _ _ e => e⟩)))
/-- an argument whose answer is told with its state -/
theorem evq_call1 {f : Value} {Q₁ Q : D → Hs → Prop} (hE : CallE e env) (ha : (kids e).tail = [k1 e]) (hs : starEach [k1 e] env = [(false, eval (k1 e) env)]) (h : Ev X A (eval (k0 e) env) H (.val f) H₁) (k : Kept X f) (h₁ : EvQ X A (eval (k1 e) env) H₁ Q₁)
    (hc : ∀ d K, Q₁ d K → CallQ X A f [d] K Q) : EvQ X A (eval e env) H Q := fun F s S =>
  call_at hE (h.mono S fun v F₁ s₁ l₁ S₁ r₁ => by
    cases (r₁ : v = f)
    have hb : ∀ pos, backTo pos (starEach [k1 e] env) = [(false, (do let v ← eval (k1 e) env; standAt pos; pure v))] ∨ True := fun _ => .inr trivial
    rw [ha, hs]
    refine callWith_of (P := fun hh => (Frg X.w).In hh) rfl (fun hh K => k.looks K) (evalArgs_of rfl ?_)
    show wpAny X.M A (spliced [(false, eval (k1 e) env)]) _ _ s₁
    exact spliced_cons (h₁.mono S₁ fun v F₂ s₂ d K l₂ S₂ r₂ q => spliced_nil ⟨S₂.kIn, wpAny_mono (hc d K q F₂ s₂ _ S₂ (.one r₂)) (fun v s' z => by cases z with | mk F' d H' l S' r q => exact ⟨F', d, H', (l₁.trans l₂).trans l, S', r, q⟩) fun _ _ e => e⟩))
/-- the same behind another order of the places -/
theorem Fn.perm {f : Value} {ds : List D} {d : D} (h : Fn X A f ds H d H') (p : List.Perm K H) (q : List.Perm H' Z) : Fn X A f ds K d Z := fun F s vs S r =>
  codeAny_mono (h F s vs (S.perm p) r) fun r s' z => by cases z with | mk v F' e l S r => exact ⟨v, F', e, l, S.perm q, r⟩
/-- what one place is known to turn into stands anywhere -/
theorem Fn.up {f : Value} {ds : List D} {d : D} {a : Addr} {p p' : P} (h : ∀ H, Fn X A f ds ((a, p) :: H) d ((a, p') :: H)) (u : ∃ l r, H = l ++ (a, p) :: r ∧ H' = l ++ (a, p') :: r) : Fn X A f ds H d H' := by
  obtain ⟨l, r, rfl, rfl⟩ := u
  exact (h (l ++ r)).perm List.perm_middle List.perm_middle.symm
end
end Mine
namespace Mine
structure RuleD where
  num : Nat
  left : Nat
  right : List Nat
  lev : Int
  act : Option Str
  line : Int
  before : Int
structure Gram where
  names : List Str
  tc : Nat
  rules : List RuleD
  lv : List (Int × Int × Str)
  expect : Option Int
  start : Nat
noncomputable def dN (n : Nat) : D := .int n
noncomputable def dOS : Option Str → D
  | none => .none
  | some x => .str x
noncomputable def dOI : Option Int → D
  | none => .none
  | some x => .int x
noncomputable def rFs (r : RuleD) : List (Str × D) := [("before", .int r.before), ("line", .int r.line), ("action", dOS r.act), ("level_of", .int r.lev), ("right", .tup (r.right.map dN)), ("left", dN r.left), ("number", dN r.num)]
noncomputable def dRule (r : RuleD) : D := .obj 39 (rFs r)
noncomputable def Gram.byLeft (g : Gram) (x : Nat) : List Nat := (g.rules.filter fun r : RuleD => r.left == x).map fun r : RuleD => r.num
noncomputable def Gram.owners (g : Gram) : List Nat := g.rules.flatMap fun r : RuleD => List.replicate (r.right.length + 1) r.num
noncomputable def offs : Nat → List RuleD → List Nat
  | _, [] => []
  | n, r :: rs => n :: offs (n + (r.right.length + 1)) rs
noncomputable def Gram.offsets (g : Gram) : List Nat := offs 0 g.rules
noncomputable def lvK (q : Int × Int × Str) : Int := q.1
noncomputable def lvD (q : Int × Int × Str) : D := .tup [.int q.2.1, .str q.2.2]
noncomputable def gFs (X : Cx) (g : Gram) : List (Str × D) := [("item_count", dN g.owners.length), ("owners", .lst (g.owners.map dN)), ("offsets", .lst (g.offsets.map dN)), ("by_left", .lst ((List.range g.names.length).map fun x => .lst ((g.byLeft x).map dN))),
  ("start", dN g.start), ("expect", dOI g.expect), ("levels", .dct X.w (g.lv.map lvK) (g.lv.map lvD)), ("rules", .lst (g.rules.map dRule)), ("terminal_count", dN g.tc), ("names", .lst (g.names.map .str))]
noncomputable def dGram (X : Cx) (g : Gram) : D := .obj 121 (gFs X g)
/-- a grammar that is well formed, and small -/
structure Gram.Ok (g : Gram) : Prop where
  num : ∀ (i : Nat) (r : RuleD), g.rules[i]? = some r → r.num = i
  left : ∀ r ∈ g.rules, r.left < g.names.length
  right : ∀ r ∈ g.rules, ∀ x ∈ r.right, x < g.names.length
  tc : g.tc < g.names.length
  nz : g.names.length ≤ 64
  rz : g.rules.length ≤ 64
  lz : ∀ r ∈ g.rules, r.right.length ≤ 64
  lv : (g.lv.map lvK).Pairwise (· < ·)
  vz : g.lv.length ≤ 8
noncomputable def zipA : Nat → List Str → List (Str × Addr)
  | _, [] => []
  | n, x :: xs => (x, n) :: zipA (n + 1) xs
theorem zipA_fst {xs : List Str} : ∀ {n : Nat}, (zipA n xs).map (·.1) = xs := by
  induction xs with
  | nil => intro n; rfl
  | cons x xs ih => intro n; exact congrArg (x :: ·) ih
theorem zipA_some {x : Str} {xs : List Str} : ∀ {n : Nat}, xs.contains x = true → ((zipA n xs).lookup x).isSome = true := by
  induction xs with
  | nil => intro n h; exact nomatch h
  | cons y xs ih =>
    intro n h
    show (List.lookup x ((y, n) :: zipA (n + 1) xs)).isSome = true
    rw [List.lookup_cons]
    cases hb : x == y with
    | true => rfl
    | false => rw [List.contains_cons, hb] at h; exact ih h
noncomputable def chk (fd : FuncData) (ks cn : List Str) : Bool :=
  decide ks.Nodup && (decide cn.Nodup && ((cn.all fun x => !(fd.scope.names.lookup x == some .local)) && ((ks.all fun x => fd.scope.names.lookup x == some .local || (fd.scope.names.lookup x == some .cell && cn.contains x)) && (!fd.scope.isCoroutine && (!fd.scope.isGenerator && (fd.scope.kind == .function && fd.closure.isEmpty))))))
noncomputable def AllV : Nat → (List Value → Prop) → Prop
  | 0, p => p []
  | n + 1, p => ∀ v, AllV n fun vs => p (v :: vs)
theorem AllV.get {n : Nat} {p : List Value → Prop} (h : AllV n p) {vs : List Value} (e : vs.length = n) : p vs := by
  induction vs generalizing n p with
  | nil => subst e; exact h
  | cons v vs ih => subst e; exact ih (h v) rfl
noncomputable def locs (fd : FuncData) (ks : List Str) (ds : List D) : List (Str × D) := (ks.zip ds).filter fun q => fd.scope.names.lookup q.1 == some .local
theorem fn_in' {X : Cx} {A : Around} {H H' : Hs} {a c : Addr} {fd : FuncData} {ks cn : List Str} {ds : List D} {d : D} (ho : (Frg X.w).lookup a = some { cls := .type "function", data := .func fd }) (hc : csK.contains (a, c) = true) (hcode : fd.code = .ref c) (hq : fnQual (Frg X.w) a = some fd.qualname)
    (hroom : A.depth < recursionLimit) (hbody : fd.body = .stmts (stmtsOf fd.body)) (hb : AllV ks.length fun vs => ∀ s, (Frg X.w).In s.heap → BindsTo s fd ⟨vs, []⟩ (ks.zip vs)) (hlen : ks.length = ds.length) (hk : chk fd ks cn = true) (hcells : ∀ n, cellsFrom n fd.scope.names [] = zipA n cn)
    (h : ∀ L, Ex X (A.deeper (callEnvC fd L a)) (execs (stmtsOf fd.body) (callEnvC fd L a)) ((L, .ns (locs fd ks ds)) :: (cellHs (ks.zip ds) (zipA (L + 1) cn) ++ H)) (Ret d H')) : Fn X A (.ref a) ds H d H' := by
  unfold chk at hk
  simp only [Bool.and_eq_true, Bool.not_eq_true', decide_eq_true_eq, beq_iff_eq] at hk
  obtain ⟨h1, h2, h3, h4, h5, h6, h7, h8⟩ := hk
  refine fn_enter ho (List.contains_iff_mem.mp hc) hcode hq hroom hbody (List.isEmpty_iff.mp h8) (fun F s vs S r => ⟨vs, r, hb.get (r.1.trans hlen.symm) s S.kIn⟩) h1 hlen (fun n => ?_) (fun n => ?_) (fun n q hq e => ?_) rfl (fun L => by rw [hcells]) h h5 h6 h7
  · rw [hcells]
    refine List.all_eq_true.mpr fun x hx => ?_
    have := List.all_eq_true.mp h4 x hx
    rw [Bool.or_eq_true] at this ⊢
    refine this.imp id fun z => ?_
    rw [Bool.and_eq_true] at z ⊢
    exact ⟨z.1, zipA_some z.2⟩
  · rw [hcells, zipA_fst]; exact h2
  · rw [hcells] at hq
    have hm : q.1 ∈ cn := by have := List.mem_map_of_mem (f := fun x : Str × Addr => x.1) hq; rwa [zipA_fst] at this
    have := List.all_eq_true.mp h3 _ hm
    rw [e] at this
    cases this
theorem AllV.mono {p q : List Value → Prop} (k : ∀ vs, p vs → q vs) : ∀ {n : Nat}, AllV n p → AllV n q
  | 0, h => k _ h
  | _ + 1, h => fun v => AllV.mono (fun vs => k (v :: vs)) (h v)
theorem fn_in {X : Cx} {A : Around} {H H' : Hs} {a c : Addr} {fd : FuncData} {ks cn : List Str} {ds : List D} {d : D} (ho : (Frg X.w).lookup a = some { cls := .type "function", data := .func fd }) (hc : csK.contains (a, c) = true) (hcode : fd.code = .ref c) (hq : fnQual (Frg X.w) a = some fd.qualname)
    (hroom : A.depth < recursionLimit) (hbody : fd.body = .stmts (stmtsOf fd.body)) (hb : AllV ks.length fun vs => bindArgs fd ⟨vs, []⟩ = pure (ks.zip vs)) (hlen : ks.length = ds.length) (hk : chk fd ks cn = true) (hcells : ∀ n, cellsFrom n fd.scope.names [] = zipA n cn)
    (h : ∀ L, Ex X (A.deeper (callEnvC fd L a)) (execs (stmtsOf fd.body) (callEnvC fd L a)) ((L, .ns (locs fd ks ds)) :: (cellHs (ks.zip ds) (zipA (L + 1) cn) ++ H)) (Ret d H')) : Fn X A (.ref a) ds H d H' :=
  fn_in' ho hc hcode hq hroom hbody (hb.mono fun vs e s _ => .of_eq e) hlen hk hcells h
theorem clsG {X : Cx} : Cls X 121 := ⟨by kernel_rfl, by kernel_rfl, by kernel_rfl, by kernel_rfl, by kernel_rfl⟩
theorem clsR {X : Cx} : Cls X 39 := ⟨by kernel_rfl, by kernel_rfl, by kernel_rfl, by kernel_rfl, by kernel_rfl⟩
theorem hand_oi {o : Option Int} : Hand (dOI o) := by
  cases o with
  | none => exact hand_none
  | some x => exact hand_int
theorem hand_os {o : Option Str} : Hand (dOS o) := by
  cases o with
  | none => exact hand_none
  | some x => exact hand_str
section
variable {X : Cx} {A : Around} {env : Env} {H H' : Hs} {e : Expr} {name : Str} {d : D}
theorem gHand {g : Gram} : ∀ q ∈ gFs X g, Hand q.2 ∧ findIn (Frg X.w) (.ref 121) q.1 = some none := by
  intro q hq
  unfold gFs at hq
  simp only [List.mem_cons, List.not_mem_nil, or_false] at hq
  rcases hq with rfl | rfl | rfl | rfl | rfl | rfl | rfl | rfl | rfl | rfl <;> refine ⟨?_, by kernel_rfl⟩ <;> first | exact hand_int | exact hand_seq | exact hand_dct | exact hand_oi
theorem rHand {r : RuleD} : ∀ q ∈ rFs r, Hand q.2 ∧ findIn (Frg X.w) (.ref 39) q.1 = some none := by
  intro q hq
  unfold rFs at hq
  simp only [List.mem_cons, List.not_mem_nil, or_false] at hq
  rcases hq with rfl | rfl | rfl | rfl | rfl | rfl | rfl <;> refine ⟨?_, by kernel_rfl⟩ <;> first | exact hand_int | exact hand_seq | exact hand_os
theorem aG {g : Gram} (he : e = .Attribute (k0 e) name e.pos) (hE : attributeBase (k0 e) name env (eval (k0 e) env) = eval (k0 e) env) (h : Ev X A (eval (k0 e) env) H (dGram X g) H') (hl : (gFs X g).lookup name = some d) : Ev X A (eval e env) H d H' :=
  have z := gHand _ (mem_of_lookup hl)
  ev_at he hE h fun F s v S hv => get_attr clsG z.2 hl z.1 S hv
theorem aR {r : RuleD} (he : e = .Attribute (k0 e) name e.pos) (hE : attributeBase (k0 e) name env (eval (k0 e) env) = eval (k0 e) env) (h : Ev X A (eval (k0 e) env) H (dRule r) H') (hl : (rFs r).lookup name = some d) : Ev X A (eval e env) H d H' :=
  have z := rHand (X := X) _ (mem_of_lookup hl)
  ev_at he hE h fun F s v S hv => get_attr clsR z.2 hl z.1 S hv
def AttN (e : Expr) (x name : Str) : Prop := e = .Attribute (.Name x (k0 e).pos) name e.pos
theorem AttN.nm {x name : Str} (he : AttN e x name) : k0 e = .Name x (k0 e).pos := congrArg k0 he
theorem AttN.att {x name : Str} (he : AttN e x name) : e = .Attribute (k0 e) name e.pos := by rw [he.nm]; exact he
theorem AttN.base {x name : Str} (he : AttN e x name) : attributeBase (k0 e) name env (eval (k0 e) env) = eval (k0 e) env := by rw [he.nm]; rfl
theorem lG {g : Gram} {x : Str} {m : List (Str × D)} (he : AttN e x name) (hb : locB env x = true) (hx : m.lookup x = some (dGram X g)) (hl : (gFs X g).lookup name = some d) : Ev X A (eval e env) ((env.locals, P.ns m) :: H) d ((env.locals, P.ns m) :: H) := aG he.att he.base (ev_local he.nm hb hx) hl
theorem lR {g : RuleD} {x : Str} {m : List (Str × D)} (he : AttN e x name) (hb : locB env x = true) (hx : m.lookup x = some (dRule g)) (hl : (rFs g).lookup name = some d) : Ev X A (eval e env) ((env.locals, P.ns m) :: H) d ((env.locals, P.ns m) :: H) := aR he.att he.base (ev_local he.nm hb hx) hl
theorem cG {g : Gram} {x : Str} {c : Addr} (he : AttN e x name) (hb : celB env x = true) (hc : env.cells.lookup x = some c) (hm : (c, P.cell (some (dGram X g))) ∈ H) (hl : (gFs X g).lookup name = some d) : Ev X A (eval e env) H d H := aG he.att he.base (ev_cell he.nm hb hc hm) hl
theorem call1 {f : Value} {d₁ : D} {H₁ H₂ : Hs} (hE : CallE e env) (ha : (kids e).tail = [k1 e]) (hs : starEach [k1 e] env = [(false, eval (k1 e) env)]) (h : Ev X A (eval (k0 e) env) H (.val f) H₁) (k : Kept X f) (h₁ : Ev X A (eval (k1 e) env) H₁ d₁ H₂) (hc : CallD X A f [d₁] H₂ d H') : Ev X A (eval e env) H d H' :=
  ev_call hE h k (by rw [ha]; exact as_cons rfl hs h₁ as_nil) hc
end
section
variable {g : Gram}
theorem sz64 {n : Nat} (h : n ≤ 64) : n ≤ sizeLine := Nat.le_trans h (by decide)
theorem Gram.Ok.names_sz (h : g.Ok) : (g.names.map D.str).length ≤ sizeLine := by rw [List.length_map]; exact sz64 h.nz
theorem Gram.Ok.rules_sz (h : g.Ok) : (g.rules.map dRule).length ≤ sizeLine := by rw [List.length_map]; exact sz64 h.rz
theorem Gram.Ok.byLeft_sz (h : g.Ok) (x : Nat) : ((g.byLeft x).map dN).length ≤ sizeLine := by
  rw [List.length_map]; unfold Gram.byLeft; rw [List.length_map]; exact sz64 (Nat.le_trans (List.length_filter_le _ _) h.rz)
theorem Gram.Ok.right_sz (h : g.Ok) {r : RuleD} (hr : r ∈ g.rules) : (r.right.map dN).length ≤ sizeLine := by rw [List.length_map]; exact sz64 (h.lz r hr)
end
end Mine
namespace Mine
noncomputable abbrev fdSC : FuncData := fdOf (inCls (topAt 3) 1) "Grammar." .none pmG 61
noncomputable abbrev fdIT : FuncData := fdOf (inCls (topAt 3) 2) "Grammar." .none pmG 68
noncomputable abbrev fdRO : FuncData := fdOf (inCls (topAt 3) 5) "Grammar." .none pmG 89
noncomputable abbrev fdRU : FuncData := fdOf (inCls (topAt 3) 7) "Grammar." .none pmG 103
noncomputable abbrev fdDO : FuncData := fdOf (inCls (topAt 3) 8) "Grammar." .none pmG 110
noncomputable abbrev fdAF : FuncData := fdOf (inCls (topAt 3) 9) "Grammar." .none pmG 117
noncomputable abbrev fdRT : FuncData := fdOf (topAt 4) "" .none pmG 131
theorem boot_range : bootBuiltins "range" = some (.type "range") := by decide +kernel
theorem boot_list : bootBuiltins "list" = some (.type "list") := by decide +kernel
theorem boot_tuple : bootBuiltins "tuple" = some (.type "tuple") := by decide +kernel
theorem map_at {α : Type} {f : α → D} {xs : List α} {i : Nat} {x : α} (h : xs[i]? = some x) : (xs.map f)[i]? = some (f x) := by rw [List.getElem?_map, h]; rfl
theorem range_at {f : Nat → D} {n i : Nat} (h : i < n) : ((List.range n).map f)[i]? = some (f i) := map_at (by rw [List.getElem?_range h])
section
variable {X : Cx} {A : Around} {H : Hs} {n : Nat} {g : Gram}
theorem w_symbol_count (hA : Rm A (n + 1)) (hg : g.Ok) : Fn X A (.ref 62) [dGram X g] H (dN g.names.length) H := by
  refine fn_in (fd := fdSC) (c := 61) (ks := ["self"]) (cn := []) (ds := [dGram X g]) rfl rfl rfl rfl hA.lt rfl (fun _ => rfl) rfl rfl (fun _ => rfl) fun L => ?_
  show Ex X _ _ ((L, P.ns [("self", dGram X g)]) :: H) _
  apply ex_ret
  rfl
  apply call1
  rfl
  rfl
  rfl
  exact ev_builtin rfl rfl rfl boot_len
  first | exact .inl ⟨_, rfl⟩ | exact .inr (.inl ⟨_, rfl⟩) | exact .inr (.inr (by kernel_rfl))
  exact lG rfl rfl rfl rfl
  exact cd_len sq hg.names_sz
  exact ⟨.inl (by rw [List.length_map]; rfl), .skip .rfl⟩
theorem w_is_terminal (hA : Rm A (n + 1)) {x : Nat} : Fn X A (.ref 69) [dGram X g, dN x] H (.bool (decide (x < g.tc))) H := by
  refine fn_in (fd := fdIT) (c := 68) (ks := ["self", "symbol"]) (cn := []) (ds := [dGram X g, dN x]) rfl rfl rfl rfl hA.lt rfl (fun _ _ => rfl) rfl rfl (fun _ => rfl) fun L => ?_
  show Ex X _ _ ((L, P.ns [("self", dGram X g), ("symbol", dN x)]) :: H) _
  apply ex_ret
  rfl
  apply ev_cmp
  rfl
  exact ev_local rfl rfl rfl
  exact lG rfl rfl rfl rfl
  exact op_lt
  rfl
  exact ⟨.inl (congrArg (fun b => Out.ret (.bool b)) (decide_eq_decide.mpr Int.ofNat_lt)), .skip .rfl⟩
theorem w_rules_of (hA : Rm A (n + 1)) (hg : g.Ok) {x : Nat} (hx : x < g.names.length) : Fn X A (.ref 90) [dGram X g, dN x] H (.lst ((g.byLeft x).map dN)) H := by
  refine fn_in (fd := fdRO) (c := 89) (ks := ["self", "symbol"]) (cn := []) (ds := [dGram X g, dN x]) rfl rfl rfl rfl hA.lt rfl (fun _ _ => rfl) rfl rfl (fun _ => rfl) fun L => ?_
  show Ex X _ _ ((L, P.ns [("self", dGram X g), ("symbol", dN x)]) :: H) _
  apply ex_ret
  rfl
  apply New.ev
  apply new_call
  rfl
  exact ev_builtin rfl rfl rfl boot_list
  first | exact .inl ⟨_, rfl⟩ | exact .inr (.inl ⟨_, rfl⟩) | exact .inr (.inr (by kernel_rfl))
  apply as_cons
  rfl
  rfl
  apply ev_item
  rfl
  exact lG rfl rfl rfl rfl
  exact ev_local rfl rfl rfl
  exact sq
  exact range_at hx
  exact sz64 (Nat.le_of_lt (Nat.lt_of_lt_of_le hx hg.nz))
  exact fun _ _ => rfl
  exact as_nil
  exact cn_list (.inl rfl) sq (hg.byLeft_sz x)
  exact ⟨.inl rfl, .skip .rfl⟩
theorem w_rule_of (hA : Rm A (n + 1)) {i x : Nat} (hx : g.owners[i]? = some x) (hz : i ≤ sizeLine) : Fn X A (.ref 104) [dGram X g, dN i] H (dN x) H := by
  refine fn_in (fd := fdRU) (c := 103) (ks := ["self", "item"]) (cn := []) (ds := [dGram X g, dN i]) rfl rfl rfl rfl hA.lt rfl (fun _ _ => rfl) rfl rfl (fun _ => rfl) fun L => ?_
  show Ex X _ _ ((L, P.ns [("self", dGram X g), ("item", dN i)]) :: H) _
  apply ex_ret
  rfl
  apply ev_item
  rfl
  exact lG rfl rfl rfl rfl
  exact ev_local rfl rfl rfl
  exact sq
  exact map_at hx
  exact hz
  exact fun _ _ => rfl
  exact ⟨.inl rfl, .skip .rfl⟩
theorem w_dot_of (hA : Rm A (n + 1)) {i x o : Nat} (hx : g.owners[i]? = some x) (hz : i ≤ sizeLine) (ho : g.offsets[x]? = some o) (hz2 : x ≤ sizeLine) : Fn X A (.ref 111) [dGram X g, dN i] H (.int (i - o)) H := by
  refine fn_in (fd := fdDO) (c := 110) (ks := ["self", "item"]) (cn := []) (ds := [dGram X g, dN i]) rfl rfl rfl rfl hA.lt rfl (fun _ _ => rfl) rfl rfl (fun _ => rfl) fun L => ?_
  show Ex X _ _ ((L, P.ns [("self", dGram X g), ("item", dN i)]) :: H) _
  apply ex_ret
  rfl
  apply ev_bin
  rfl
  exact ev_local rfl rfl rfl
  apply ev_item
  rfl
  exact lG rfl rfl rfl rfl
  apply ev_item
  rfl
  exact lG rfl rfl rfl rfl
  exact ev_local rfl rfl rfl
  exact sq
  exact map_at hx
  exact hz
  exact fun _ _ => rfl
  exact sq
  exact map_at ho
  exact hz2
  exact fun _ _ => rfl
  exact op_sub
  exact ⟨.inl rfl, .skip .rfl⟩
noncomputable def dTold (r : RuleD) : D := .tup [dN r.left, .tup (r.right.map dN), .int r.lev, dOS r.act, .int r.before]
theorem w_rule_told (hA : Rm A (n + 1)) {r : RuleD} : Fn X A (.ref 132) [dRule r] H (dTold r) H := by
  refine fn_in (fd := fdRT) (c := 131) (ks := ["rule"]) (cn := []) (ds := [dRule r]) rfl rfl rfl rfl hA.lt rfl (fun _ => rfl) rfl rfl (fun _ => rfl) fun L => ?_
  show Ex X _ _ ((L, P.ns [("rule", dRule r)]) :: H) _
  apply ex_ret
  rfl
  apply ev_tup
  rfl
  apply as_cons
  rfl
  rfl
  exact lR rfl rfl rfl rfl
  apply as_cons
  rfl
  rfl
  exact lR rfl rfl rfl rfl
  apply as_cons
  rfl
  rfl
  exact lR rfl rfl rfl rfl
  apply as_cons
  rfl
  rfl
  exact lR rfl rfl rfl rfl
  apply as_cons
  rfl
  rfl
  exact lR rfl rfl rfl rfl
  exact as_nil
  rfl
  exact ⟨.inl rfl, .skip .rfl⟩
end
end Mine
namespace Mine
section
variable {X : Cx} {A : Around} {env : Env} {H H' H₁ H₂ K Z : Hs} {R : Out → Hs → Prop} {e : Expr} {ss : List Stmt}
def RetQ (Q : D → Hs → Prop) (o : Out) (H'' : Hs) : Prop := ∃ d H', (o = .ret d ∨ (o = .next ∧ d = .none)) ∧ Wk H'' H' ∧ Q d H'
theorem fn_enterQ {a c : Addr} {fd : FuncData} {body : List Stmt} {ks : List Str} {ds es : List D} {Q : D → Hs → Prop} (ho : (Frg X.w).lookup a = some { cls := .type "function", data := .func fd }) (hc : (a, c) ∈ csK) (hcode : fd.code = .ref c) (hq : fnQual (Frg X.w) a = some fd.qualname)
    (hroom : A.depth < recursionLimit) (hbody : fd.body = .stmts body) (hclo : fd.closure = [])
    (hbind : ∀ F s vs, St X H F s → RepL F vs ds → ∃ us, RepL F us es ∧ BindsTo s fd ⟨vs, []⟩ (ks.zip us)) (hnd : ks.Nodup) (hlen : ks.length = es.length)
    (hkind : ∀ n, (ks.all fun x => fd.scope.names.lookup x == some .local || (fd.scope.names.lookup x == some .cell && ((cellsFrom n fd.scope.names []).lookup x).isSome)) = true)
    (hcn : ∀ n, ((cellsFrom n fd.scope.names []).map (·.1)).Nodup) (hck : ∀ n, ∀ q ∈ cellsFrom n fd.scope.names [], fd.scope.names.lookup q.1 ≠ some .local)
    {m : List (Str × D)} (hm : (ks.zip es).filter (fun q => fd.scope.names.lookup q.1 == some .local) = m) {cs : Addr → Hs} (hcs : ∀ L, cellHs (ks.zip es) (cellsFrom (L + 1) fd.scope.names []) = cs L)
    (h : ∀ L, Ex X (A.deeper (callEnvC fd L a)) (execs body (callEnvC fd L a)) ((L, .ns m) :: (cs L ++ H)) (RetQ Q))
    (hco : fd.scope.isCoroutine = false) (hgen : fd.scope.isGenerator = false) (hk : fd.scope.kind = .function) : FnQ X A (.ref a) ds H Q := fun F s vs S r => by
  obtain ⟨us, ru, hb⟩ := hbind F s vs S r
  obtain ⟨q, hq', hcd⟩ := X.code _ hc
  rw [hq] at hq'
  cases hq'
  refine codeAny_call_function hroom (S.kIn _ _ ho) rfl hco hgen hbody (hcode ▸ hcd.keeps S.hbk) (hb _ _ _ _ ?_)
  rw [hclo]
  refine wpAny_newFunctionEnv_cells hk (fun x hx => ?_) fun ev he s' Y => ?_
  · have h1 := List.all_eq_true.mp (hkind (s.heap.objs.size + 1)) x.1 (List.of_mem_zip hx).1
    rw [Bool.or_eq_true, Bool.and_eq_true, beq_iff_eq, beq_iff_eq] at h1
    exact h1
  subst he
  obtain ⟨⟨same, ns, keep, fresh⟩, cell, apart, above⟩ := Y
  obtain ⟨h₁, tk, rfl⟩ := same
  obtain ⟨ol, eso, ep, hol, hdl, hks, hfl⟩ := ns
  have hcells : ∀ q ∈ cellsFrom (s.heap.objs.size + 1) fd.scope.names [], ∃ o, h₁.get? q.2 = some o ∧ (P.cell ((ks.zip es).lookup q.1)).is F o := fun q hq => by
    have hl : (cellsFrom (s.heap.objs.size + 1) fd.scope.names []).lookup q.1 = some q.2 := by
      have hn := hcn (s.heap.objs.size + 1)
      revert hq hn
      generalize cellsFrom (s.heap.objs.size + 1) fd.scope.names [] = cs
      intro hq hn
      induction cs with
      | nil => cases hq
      | cons c cs ih =>
        rw [List.map_cons, List.nodup_cons] at hn
        rw [List.lookup_cons]
        rcases List.mem_cons.mp hq with e | hq
        · subst e; rw [beq_self_eq_true]
        · have : (q.1 == c.1) = false := beq_eq_false_iff_ne.mpr fun e => hn.1 (e ▸ List.mem_map_of_mem (f := fun x : Str × Addr => x.1) hq)
          rw [this]; exact ih hq hn.2
    obtain ⟨o, ho, hd⟩ := cell _ _ hl
    have hkn := hck _ q hq
    have hb2 := lookup_bindC (kindOf := (newEnv fd.scope s.heap.objs.size fd.globals (cellsFrom (s.heap.objs.size + 1) fd.scope.names []) (fd.qualname ++ ".<locals>.") (some a) fd.code none fd.builtins).kindOf) (x := q.1) (m := fun _ => none) hkn hnd ru
    refine ⟨o, ho, ?_⟩
    cases hlk : (ks.zip es).lookup q.1 with
    | none => exact .mk _ hd (fun _ => hb2.2 hlk) fun _ e => by cases e
    | some d' => exact .mk _ hd (fun e => by cases e) fun d2 e => by cases e; exact hb2.1 _ hlk
  have S2 := S.fresh (tk := tk) (N := (s.heap.objs.size, .ns m) :: cellHs (ks.zip es) (cellsFrom (s.heap.objs.size + 1) fd.scope.names [])) keep (fun q hq => (List.mem_cons.mp hq).elim (fun e => e ▸ ⟨ol, hol, .mk eso ep hdl hks fun x e hx => by
      rw [hfl]
      have hx2 := mem_of_lookup hx
      rw [← hm, List.mem_filter, beq_iff_eq] at hx2
      exact lookup_bindL hnd ru hx2.1 hx2.2⟩) fun hq => (List.mem_map.mp hq).elim fun p z => z.2 ▸ hcells p z.1) (by
    rw [List.map_cons]
    refine List.nodup_cons.mpr ⟨fun hh => ?_, by unfold cellHs; rw [List.map_map]; exact (List.pairwise_map.mpr apart : List.Pairwise _ _)⟩
    obtain ⟨q, hq, e⟩ := List.mem_map.mp hh
    obtain ⟨p, hp, e'⟩ := List.mem_map.mp hq
    exact Nat.ne_of_gt (above p.1 p.2 hp) ((congrArg (·.1) e').trans e)) fun q hq => (List.mem_cons.mp hq).elim (fun e => e ▸ Nat.le_refl _) fun hq => (List.mem_map.mp hq).elim fun p z => z.2 ▸ Nat.le_of_lt (above p.1 p.2 z.1)
  refine ⟨S2.lim, codeAny_func ?_⟩
  refine (h s.heap.objs.size).mono (hcs _ ▸ S2) fun f F' s' o H'' l S' ho' hR => ?_
  obtain ⟨d, H', hR, w, q⟩ := hR
  rcases hR with rfl | ⟨rfl, rfl⟩
  · obtain ⟨v, rfl, hv⟩ := ho'
    exact ⟨v, F', d, H', rfl, l, S'.wk w, hv, q⟩
  · cases ho'
    exact ⟨.none, F', .none, H', rfl, l, S'.wk w, rfl, q⟩
theorem New.q {t : Sem Value} {ds : List D} (h : New X A t H ds H') : EvQ X A t H fun d K => ∃ a, d = .ptr a ∧ K = (a, .lst ds) :: H' := fun F s S =>
  wpAny_mono (h F s S) (fun v s' z => by cases z with | mk F' a e l S' => exact ⟨F', .ptr a, _, l, S', e, a, rfl, rfl⟩) fun _ _ e => e
theorem ex_retQ {Q : D → Hs → Prop} (he : ss = .Return (some (z0 ss)) (posS ss) :: ss.tail) (h : EvQ X A (eval (z0 ss) env) H Q) (k : ∀ d K, Q d K → R (.ret d) K) : Ex X A (execs ss env) H R := .ss he (ex_cons fun F s S =>
  wpAny_Return_some (h.mono S fun v F₁ s₁ d K l₁ S₁ r₁ q => ⟨F₁, K, .ret d, l₁, S₁, ⟨v, rfl, r₁⟩, (fun e => by cases e), fun _ => k d K q⟩))
end
theorem fn_inQ' {X : Cx} {A : Around} {H : Hs} {a c : Addr} {fd : FuncData} {ks cn : List Str} {ds : List D} {Q : D → Hs → Prop} (ho : (Frg X.w).lookup a = some { cls := .type "function", data := .func fd }) (hc : csK.contains (a, c) = true) (hcode : fd.code = .ref c) (hq : fnQual (Frg X.w) a = some fd.qualname)
    (hroom : A.depth < recursionLimit) (hbody : fd.body = .stmts (stmtsOf fd.body)) (hb : AllV ks.length fun vs => ∀ s, (Frg X.w).In s.heap → BindsTo s fd ⟨vs, []⟩ (ks.zip vs)) (hlen : ks.length = ds.length) (hk : chk fd ks cn = true) (hcells : ∀ n, cellsFrom n fd.scope.names [] = zipA n cn)
    (h : ∀ L, Ex X (A.deeper (callEnvC fd L a)) (execs (stmtsOf fd.body) (callEnvC fd L a)) ((L, .ns (locs fd ks ds)) :: (cellHs (ks.zip ds) (zipA (L + 1) cn) ++ H)) (RetQ Q)) : FnQ X A (.ref a) ds H Q := by
  unfold chk at hk
  simp only [Bool.and_eq_true, Bool.not_eq_true', decide_eq_true_eq, beq_iff_eq] at hk
  obtain ⟨h1, h2, h3, h4, h5, h6, h7, h8⟩ := hk
  refine fn_enterQ ho (List.contains_iff_mem.mp hc) hcode hq hroom hbody (List.isEmpty_iff.mp h8) (fun F s vs S r => ⟨vs, r, hb.get (r.1.trans hlen.symm) s S.kIn⟩) h1 hlen (fun n => ?_) (fun n => ?_) (fun n q hq e => ?_) rfl (fun L => by rw [hcells]) h h5 h6 h7
  · rw [hcells]
    refine List.all_eq_true.mpr fun x hx => ?_
    have := List.all_eq_true.mp h4 x hx
    rw [Bool.or_eq_true] at this ⊢
    refine this.imp id fun z => ?_
    rw [Bool.and_eq_true] at z ⊢
    exact ⟨z.1, zipA_some z.2⟩
  · rw [hcells, zipA_fst]; exact h2
  · rw [hcells] at hq
    have hm : q.1 ∈ cn := by have := List.mem_map_of_mem (f := fun x : Str × Addr => x.1) hq; rwa [zipA_fst] at this
    have := List.all_eq_true.mp h3 _ hm
    rw [e] at this
    cases this
theorem fn_inQ {X : Cx} {A : Around} {H : Hs} {a c : Addr} {fd : FuncData} {ks cn : List Str} {ds : List D} {Q : D → Hs → Prop} (ho : (Frg X.w).lookup a = some { cls := .type "function", data := .func fd }) (hc : csK.contains (a, c) = true) (hcode : fd.code = .ref c) (hq : fnQual (Frg X.w) a = some fd.qualname)
    (hroom : A.depth < recursionLimit) (hbody : fd.body = .stmts (stmtsOf fd.body)) (hb : AllV ks.length fun vs => bindArgs fd ⟨vs, []⟩ = pure (ks.zip vs)) (hlen : ks.length = ds.length) (hk : chk fd ks cn = true) (hcells : ∀ n, cellsFrom n fd.scope.names [] = zipA n cn)
    (h : ∀ L, Ex X (A.deeper (callEnvC fd L a)) (execs (stmtsOf fd.body) (callEnvC fd L a)) ((L, .ns (locs fd ks ds)) :: (cellHs (ks.zip ds) (zipA (L + 1) cn) ++ H)) (RetQ Q)) : FnQ X A (.ref a) ds H Q :=
  fn_inQ' ho hc hcode hq hroom hbody (hb.mono fun vs e s _ => .of_eq e) hlen hk hcells h
end Mine
namespace Mine
section
variable {X : Cx} {A : Around} {env : Env} {H H' H₁ H₂ K Z : Hs} {R : Out → Hs → Prop} {e : Expr} {ss : List Stmt}
/-- a new list bound to a name -/
theorem ex_newL {x : Str} {ds : List D} {m : List (Str × D)} (he : ss = .Assign [.Name x (z1 ss).pos] (z0 ss) (posS ss) :: ss.tail) (hb : stoB env x = true) (h : New X A (eval (z0 ss) env) H ds ((env.locals, P.ns m) :: H₁)) (hs : swapsWith (z0 ss) (some (.Name x (z1 ss).pos)) (posS ss).line env = pure false)
    (k : ∀ a, Ex X A (execs ss.tail env) ((env.locals, P.ns ((x, .ptr a) :: m)) :: (a, .lst ds) :: H₁) R) : Ex X A (execs ss env) H R :=
  ex_new he h hs fun a => ⟨_, bnd_local hb (.tail _ (.head _)) (Up.tail Up.head), (k a).step (Stp.perm (List.Perm.swap ..))⟩
/-- the frame's names again, told anew -/
theorem Ex.ns {t : Sem Flow} {L : Addr} {m m' : List (Str × D)} (h : Ex X A t ((L, P.ns m') :: H) R) (k : ∀ q ∈ m', m.lookup q.1 = some q.2) : Ex X A t ((L, P.ns m) :: H) R := h.step (Stp.wk (.keep (.ns k) .rfl))
theorem nsk_nil {m : List (Str × D)} : ∀ q ∈ ([] : List (Str × D)), m.lookup q.1 = some q.2 := fun q h => nomatch h
theorem nsk_cons {m m' : List (Str × D)} {x : Str} {d : D} (h : m.lookup x = some d) (k : ∀ q ∈ m', m.lookup q.1 = some q.2) : ∀ q ∈ (x, d) :: m', m.lookup q.1 = some q.2 := fun q hq => (List.mem_cons.mp hq).elim (fun e => e ▸ h) (k q)
/-- a turning list that turns no more, as an answer -/
theorem Ev.froz {t : Sem Value} {a : Addr} {ds : List D} (h : Ev X A t H (.ptr a) H₁) (p : List.Perm H₁ ((a, .lst ds) :: H')) : Ev X A t H (.lst ds) H' := fun F s S =>
  h.mono S fun v F₁ s₁ l₁ S₁ (r₁ : v = .ref a) => by
    subst r₁
    obtain ⟨F', le, S', r⟩ := (S₁.perm p).lst
    exact ⟨F', l₁.trans le, S', r⟩
theorem Up.app {a : Addr} {p : P} {l r r' : Hs} (u : Up a p r r') : Up a p (l ++ r) (l ++ r') := by
  induction l with
  | nil => exact u
  | cons x l ih => exact ih.tail
theorem Up.appL {a : Addr} {p : P} {l l' r : Hs} (u : Up a p l l') : Up a p (l ++ r) (l' ++ r) := by
  obtain ⟨x, q, y, rfl, rfl⟩ := u
  exact ⟨x, q, y ++ r, by simp, by simp⟩
theorem Fn.upM {f : Value} {ds : List D} {d : D} {a : Addr} {p p' : P} (h : ∀ H, Fn X A f ds ((a, p) :: H) d ((a, p') :: H)) {l r : Hs} : Fn X A f ds (l ++ (a, p) :: r) d (l ++ (a, p') :: r) := Fn.up h ⟨l, r, rfl, rfl⟩
-- rows of lists, each its own
noncomputable def rowsH : List Addr → List (List D) → Hs
  | a :: as, ds :: dss => (a, .lst ds) :: rowsH as dss
  | _, _ => []
theorem rowsH_mem {as : List Addr} {dss : List (List D)} {k : Nat} {a : Addr} {ds : List D} (ha : as[k]? = some a) (hd : dss[k]? = some ds) : (a, P.lst ds) ∈ rowsH as dss := by
  induction as generalizing dss k with
  | nil => simp at ha
  | cons b as ih =>
    cases dss with
    | nil => simp at hd
    | cons es dss =>
      cases k with
      | zero => simp at ha hd; subst ha hd; exact .head _
      | succ k => simp at ha hd; exact .tail _ (ih ha hd)
theorem rowsH_up {as : List Addr} {dss : List (List D)} {k : Nat} {a : Addr} {ds es : List D} (ha : as[k]? = some a) (hd : dss[k]? = some ds) : Up a (.lst es) (rowsH as dss) (rowsH as (dss.set k es)) := by
  induction as generalizing dss k with
  | nil => simp at ha
  | cons b as ih =>
    cases dss with
    | nil => simp at hd
    | cons es dss =>
      cases k with
      | zero => simp at ha hd; subst ha hd; exact Up.head
      | succ k => simp at ha hd; exact (ih ha hd).tail
theorem rowsH_snoc {as : List Addr} {dss : List (List D)} {a : Addr} {ds : List D} (h : as.length = dss.length) : rowsH (as ++ [a]) (dss ++ [ds]) = rowsH as dss ++ [(a, .lst ds)] := by
  induction as generalizing dss with
  | nil => cases dss with
    | nil => rfl
    | cons _ _ => simp at h
  | cons b as ih => cases dss with
    | nil => simp at h
    | cons es dss => simp at h; exact congrArg (_ :: ·) (ih h)
/-- the rows turn no more -/
theorem St.rows {as : List Addr} {dss : List (List D)} {F : Fz} {s : Shared} (hl : as.length = dss.length) (S : St X (rowsH as dss ++ H) F s) : ∃ F', Le F F' ∧ St X H F' s ∧ RepL F' (as.map .ref) (dss.map .lst) := by
  induction as generalizing dss F with
  | nil => cases dss with
    | nil => exact ⟨F, .rfl, S, .nil⟩
    | cons _ _ => simp at hl
  | cons a as ih => cases dss with
    | nil => simp at hl
    | cons ds dss =>
      obtain ⟨F₁, l₁, S₁, r₁⟩ := St.lst (S : St X ((a, .lst ds) :: (rowsH as dss ++ H)) F s)
      obtain ⟨F₂, l₂, S₂, r₂⟩ := ih (by simpa using hl) S₁
      exact ⟨F₂, l₁.trans l₂, S₂, .cons ((D.lst ds).mono l₂ r₁) r₂⟩
theorem ptrs_are {F : Fz} {as : List Addr} {vs : List Value} (r : RepL F vs (as.map D.ptr)) : vs = as.map .ref := by
  induction as generalizing vs with
  | nil => exact r.nil_inv
  | cons a as ih =>
    obtain ⟨v, us, rfl, hv, r'⟩ := r.cons_inv
    rw [show v = .ref a from hv, ih r']; rfl
/-- a list of such rows, read when they turn no more -/
theorem lst_rows {F F' : Fz} {as : List Addr} {dss : List (List D)} {v : Value} (h : (D.lst (as.map D.ptr)).is F v) (l : Le F F') (r : RepL F' (as.map .ref) (dss.map .lst)) : (D.lst (dss.map .lst)).is F' v := by
  obtain ⟨a, e, I⟩ := h
  cases I with
  | mk vs n f q => exact ⟨a, e, .mk vs n (l _ _ f) (by rw [ptrs_are q]; exact r)⟩
theorem rows_get {as : List Addr} {k : Nat} {a : Addr} (h : as[k]? = some a) : (as.map D.ptr)[k]? = some (.ptr a) := by rw [List.getElem?_map, h]; rfl
theorem turn_row {C : Addr} {T : Hs} {m : List (Str × D)} {as : List Addr} {j : Nat} {ce : Expr} (hl : as.length = j) (hn : ce = .List [] ce.pos) : EvQ X A (eval ce env) ((C, .ns m) :: ((rowsH as (List.replicate j []) ++ H₁) ++ T)) fun e H₄ => ∃ m H', H₄ = (C, .ns m) :: (H' ++ T) ∧ ∃ as' : List Addr, as'.length = j + 1 ∧ as.map D.ptr ++ (some e).toList = as'.map D.ptr ∧ H' = rowsH as' (List.replicate (j + 1) []) ++ H₁ := fun F s S => by
  have hn' : New X A (eval ce env) ((C, .ns m) :: ((rowsH as (List.replicate j []) ++ H₁) ++ T)) [] ((C, .ns m) :: ((rowsH as (List.replicate j []) ++ H₁) ++ T)) := by
    have hk : kids ce = [] := by rw [hn]; rfl
    exact new_list (by rw [hk]; exact hn) (by rw [hk]; exact as_nil) rfl
  refine wpAny_mono (hn' F s S) (fun v s' z => ?_) fun _ _ e => e
  obtain ⟨F', x, rfl, le, S'⟩ := z
  refine ⟨F', .ptr x, (C, .ns m) :: ((rowsH (as ++ [x]) (List.replicate (j + 1) []) ++ H₁) ++ T), le, S'.perm ?_, rfl, m, rowsH (as ++ [x]) (List.replicate (j + 1) []) ++ H₁, rfl, as ++ [x], by simp [hl], by simp, rfl⟩
  rw [List.replicate_succ', rowsH_snoc (by simp [hl])]
  refine (List.Perm.swap ..).trans (List.Perm.cons _ ?_)
  rw [List.append_assoc, List.append_assoc, List.append_assoc]
  exact (List.perm_middle (l₁ := rowsH as (List.replicate j []))).symm
/-- [[] for x in xs] -/
theorem evq_rows {items : List D} {cl : List (Str × Addr)} (he : CompIs e []) (c : Cmp env (scopeE e) cl (k2 e))
    (src : SrcE X A (eval (k2 e) env) (k1 e) items [] H H₁) (hsz : items.length ≤ sizeLine)
    (a : ∀ C T d (K : Hs), d ∈ items → ∃ m, Asg X A (compEnvC (scopeE e) cl C env) (k1 e) d ((C, .ns []) :: (K ++ T)) ((C, .ns m) :: (K ++ T))) (hn : k0 e = .List [] (k0 e).pos) :
    EvQ X A (eval e env) H fun d K => ∃ as : List Addr, as.length = items.length ∧ d = .lst (as.map D.ptr) ∧ K = rowsH as (List.replicate items.length []) ++ H₁ :=
  evq_comp (Z := []) (fun j ds K => ∃ as : List Addr, as.length = j ∧ ds = as.map D.ptr ∧ K = rowsH as (List.replicate j []) ++ H₁) he c src hsz ⟨[], rfl, rfl, rfl⟩ (fun C T j ds K d hj hd => by
    obtain ⟨as, hl, rfl, rfl⟩ := hj
    obtain ⟨m, ha⟩ := a C T d (rowsH as (List.replicate j []) ++ H₁) (List.mem_of_getElem? hd)
    exact .mk _ _ true ha tst_nil (fun hb => by cases hb) fun _ => turn_row hl hn) fun ds K h => h.imp fun as z => ⟨z.1, congrArg _ z.2.1, z.2.2⟩
theorem new_sliceU {d : D} {ds es : List D} {hi : Int} (he : e = .Subscript (k0 e) (.Slice none (some (k0 (k1 e))) none (k1 e).pos) e.pos) (h : Ev X A (eval (k0 e) env) H d H₁) (hu : Ev X A (eval (k0 (k1 e)) env) H₁ (.int hi) H') (q : Sq X H' "list" d ds) (hz : ds.length ≤ sizeLine)
    (hp : ∀ (F : Fz) (vs : Array Value), RepL F vs.toList ds → RepL F (slicePick vs none (some hi) none).toList es) : New X A (eval e env) H es H' := new_slice he h prt_none (prt_some hu) q hz hp
theorem new_sliceL {d : D} {ds es : List D} {lo : Int} (he : e = .Subscript (k0 e) (.Slice (some (k0 (k1 e))) none none (k1 e).pos) e.pos) (h : Ev X A (eval (k0 e) env) H d H₁) (hu : Ev X A (eval (k0 (k1 e)) env) H₁ (.int lo) H') (q : Sq X H' "list" d ds) (hz : ds.length ≤ sizeLine)
    (hp : ∀ (F : Fz) (vs : Array Value), RepL F vs.toList ds → RepL F (slicePick vs (some lo) none none).toList es) : New X A (eval e env) H es H' := new_slice he h (prt_some hu) prt_none q hz hp
theorem new_sliceLU {d : D} {ds es : List D} {lo hi : Int} (he : e = .Subscript (k0 e) (.Slice (some (k0 (k1 e))) (some (k1 (k1 e))) none (k1 e).pos) e.pos) (h : Ev X A (eval (k0 e) env) H d H₁) (hl : Ev X A (eval (k0 (k1 e)) env) H₁ (.int lo) H₂) (hu : Ev X A (eval (k1 (k1 e)) env) H₂ (.int hi) H') (q : Sq X H' "list" d ds) (hz : ds.length ≤ sizeLine)
    (hp : ∀ (F : Fz) (vs : Array Value), RepL F vs.toList ds → RepL F (slicePick vs (some lo) (some hi) none).toList es) : New X A (eval e env) H es H' := new_slice he h (prt_some hl) (prt_some hu) q hz hp
end
end Mine
namespace Mine
/-- the place a turns from p to p' -/
inductive At (a : Addr) (p p' : P) : Hs → Hs → Prop
  | head {r : Hs} : At a p p' ((a, p) :: r) ((a, p') :: r)
  | tail {x : Addr × P} {r r' : Hs} : At a p p' r r' → At a p p' (x :: r) (x :: r')
theorem At.split {a : Addr} {p p' : P} {H H' : Hs} (u : At a p p' H H') : ∃ l r, H = l ++ (a, p) :: r ∧ H' = l ++ (a, p') :: r := by
  induction u with
  | @head r => exact ⟨[], r, rfl, rfl⟩
  | @tail x r r' _ ih => obtain ⟨l, t, rfl, rfl⟩ := ih; exact ⟨x :: l, t, rfl, rfl⟩
theorem At.app {a : Addr} {p p' : P} {l H H' : Hs} (u : At a p p' H H') : At a p p' (l ++ H) (l ++ H') := by
  induction l with
  | nil => exact u
  | cons x l ih => exact ih.tail
theorem At.appL {a : Addr} {p p' : P} {H H' r : Hs} (u : At a p p' H H') : At a p p' (H ++ r) (H' ++ r) := by
  induction u with
  | head => exact .head
  | tail _ ih => exact ih.tail
/-- the place a taken out -/
inductive Pull (a : Addr) (p : P) : Hs → Hs → Prop
  | head {r : Hs} : Pull a p ((a, p) :: r) r
  | tail {x : Addr × P} {r r' : Hs} : Pull a p r r' → Pull a p (x :: r) (x :: r')
theorem Pull.perm {a : Addr} {p : P} {H H' : Hs} (u : Pull a p H H') : List.Perm H ((a, p) :: H') := by
  induction u with
  | head => exact .refl _
  | tail _ ih => exact (ih.cons _).trans (.swap ..)
section
variable {X : Cx} {A : Around} {env : Env} {H H' H₁ H₂ K Z : Hs} {R : Out → Hs → Prop} {e : Expr} {ss : List Stmt}
theorem Fn.at {f : Value} {ds : List D} {d : D} {a : Addr} {p p' : P} (h : ∀ H, Fn X A f ds ((a, p) :: H) d ((a, p') :: H)) (u : At a p p' H H') : Fn X A f ds H d H' := Fn.up h u.split
theorem CallD.at {f : Value} {ds : List D} {d : D} {a : Addr} {p p' : P} (u : At a p p' H H') (h : ∀ H, Fn X A f ds ((a, p) :: H) d ((a, p') :: H)) : CallD X A f ds H d H' := (Fn.at h u).call
theorem CallD.q {f : Value} {ds : List D} {d : D} {Q : D → Hs → Prop} (h : CallD X A f ds H d H') (q : Q d H') : CallQ X A f ds H Q := fun F s vs S r =>
  wpAny_mono (h F s vs S r) (fun v s' z => by cases z with | mk F' l S' r => exact ⟨F', d, H', l, S', r, q⟩) fun _ _ e => e
theorem m_append {pl : Sem Bool} {d : D} {es : List D} (q : Sq X H "list" d es) : MethD X A d "append" pl H (.builtin "list.append") d := meth_list (l := 0) (ds := []) q slot_list_append (by kernel_rfl)
theorem m_pop {pl : Sem Bool} {d : D} {es : List D} (q : Sq X H "list" d es) : MethD X A d "pop" pl H (.builtin "list.pop") d := meth_list (l := 0) (ds := []) q PySem.F.slot_list_pop (by kernel_rfl)
theorem m_extend {pl : Sem Bool} {d : D} {es : List D} (q : Sq X H "list" d es) : MethD X A d "extend" pl H (.builtin "list.extend") d := meth_list (l := 0) (ds := []) q PySem.F.slot_list_extend (by kernel_rfl)
theorem m_index {pl : Sem Bool} {d : D} {es : List D} (q : Sq X H "list" d es) : MethD X A d "index" pl H (.builtin "list.index") d := meth_list (l := 0) (ds := []) q PySem.F.slot_list_index (by kernel_rfl)
theorem Ev.frz {t : Sem Value} {a : Addr} {ds : List D} (h : Ev X A t H (.ptr a) H₁) (p : Pull a (.lst ds) H₁ H') : Ev X A t H (.lst ds) H' := h.froz p.perm
theorem rng_small {n : Nat} (h : n ≤ 64) : Builtin.Range.small 0 (n : Int) 1 = true ∧ Builtin.Range.rangeSize 0 (n : Int) 1 = (n : Int) := by
  have : ∀ m : Nat, m ≤ 64 → Builtin.Range.small 0 (m : Int) 1 = true ∧ Builtin.Range.rangeSize 0 (m : Int) 1 = (m : Int) := by decide +kernel
  exact this n h
theorem rng_small2 {a n : Nat} (h : a ≤ n) (hn : n ≤ 64) : Builtin.Range.small (a : Int) (n : Int) 1 = true ∧ Builtin.Range.rangeSize (a : Int) (n : Int) 1 = ((n - a : Nat) : Int) := by
  have : ∀ m : Nat, m ≤ 64 → ∀ b : Nat, b ≤ m → Builtin.Range.small (b : Int) (m : Int) 1 = true ∧ Builtin.Range.rangeSize (b : Int) (m : Int) 1 = ((m - b : Nat) : Int) := by decide +kernel
  exact this n hn a h
theorem src_range0 {target : Expr} {n : Nat} (hh : A.handled = none) (h : ∀ it v, letOwnedTupleGo target it v = pure ()) (hn : n ≤ 64) : Src X A (.rng 0 n) target (upFrom 0 n) := src_range hh h (rng_small hn).1 (rng_small hn).2
theorem src_range2 {target : Expr} {a n : Nat} (hh : A.handled = none) (h : ∀ it v, letOwnedTupleGo target it v = pure ()) (ha : a ≤ n) (hn : n ≤ 64) : Src X A (.rng a n) target (upFrom a (n - a)) := src_range hh h (rng_small2 ha hn).1 (rng_small2 ha hn).2
theorem cd_rangeN {b : Int} {n : Nat} (h : b = n) : CallD X A (.type "range") [.int b] H (.rng 0 n) H := h ▸ cd_range
theorem upFrom_get {x : Int} {n j : Nat} {d : D} (h : (upFrom x n)[j]? = some d) : j < n ∧ d = .int (x + (j : Int)) := by
  unfold upFrom at h
  rw [List.getElem?_map] at h
  by_cases hj : j < n
  · rw [List.getElem?_range hj] at h; cases h; exact ⟨hj, rfl⟩
  · rw [List.getElem?_eq_none (by rw [List.length_range]; omega)] at h; cases h
theorem upFrom_len {x : Int} {n : Nat} : (upFrom x n).length = n := by unfold upFrom; rw [List.length_map, List.length_range]
theorem upFrom0 {n : Nat} : upFrom 0 n = (List.range n).map fun j : Nat => D.int (j : Int) := by
  unfold upFrom; exact List.map_congr_left fun j _ => by rw [Int.zero_add]
end
theorem lookup_fst {x : Str} : ∀ {cs : List (Str × Addr)}, (cs.map (·.1)).contains x = true → (cs.lookup x).isSome = true
  | [], h => nomatch h
  | (y, a) :: cs, h => by
    rw [List.lookup_cons]
    cases hb : x == y with
    | true => rfl
    | false => rw [List.map_cons, List.contains_cons, hb] at h; exact lookup_fst h
theorem fn_inCQ' {X : Cx} {A : Around} {H : Hs} {a c : Addr} {fd : FuncData} {ks cn : List Str} {ds : List D} {Q : D → Hs → Prop} {cs : Nat → List (Str × Addr)} (ho : (Frg X.w).lookup a = some { cls := .type "function", data := .func fd }) (hc : csK.contains (a, c) = true) (hcode : fd.code = .ref c) (hq : fnQual (Frg X.w) a = some fd.qualname)
    (hroom : A.depth < recursionLimit) (hbody : fd.body = .stmts (stmtsOf fd.body)) (hb : AllV ks.length fun vs => ∀ s, (Frg X.w).In s.heap → BindsTo s fd ⟨vs, []⟩ (ks.zip vs)) (hlen : ks.length = ds.length) (hk : chk fd ks cn = true) (hcells : ∀ n, cellsFrom n fd.scope.names [] = cs n) (hfst : ∀ n, (cs n).map (·.1) = cn)
    (h : ∀ L, Ex X (A.deeper (callEnvC fd L a)) (execs (stmtsOf fd.body) (callEnvC fd L a)) ((L, .ns (locs fd ks ds)) :: (cellHs (ks.zip ds) (cs (L + 1)) ++ H)) (RetQ Q)) : FnQ X A (.ref a) ds H Q := by
  unfold chk at hk
  simp only [Bool.and_eq_true, Bool.not_eq_true', decide_eq_true_eq, beq_iff_eq] at hk
  obtain ⟨h1, h2, h3, h4, h5, h6, h7, h8⟩ := hk
  refine fn_enterQ ho (List.contains_iff_mem.mp hc) hcode hq hroom hbody (List.isEmpty_iff.mp h8) (fun F s vs S r => ⟨vs, r, hb.get (r.1.trans hlen.symm) s S.kIn⟩) h1 hlen (fun n => ?_) (fun n => ?_) (fun n q hq e => ?_) rfl (fun L => by rw [hcells]) h h5 h6 h7
  · rw [hcells]
    refine List.all_eq_true.mpr fun x hx => ?_
    have := List.all_eq_true.mp h4 x hx
    rw [Bool.or_eq_true] at this ⊢
    refine this.imp id fun z => ?_
    rw [Bool.and_eq_true] at z ⊢
    exact ⟨z.1, lookup_fst (by rw [hfst]; exact z.2)⟩
  · rw [hcells, hfst]; exact h2
  · rw [hcells] at hq
    have hm : q.1 ∈ cn := by have := List.mem_map_of_mem (f := fun x : Str × Addr => x.1) hq; rwa [hfst] at this
    have := List.all_eq_true.mp h3 _ hm
    rw [e] at this
    cases this
theorem fn_inCQ {X : Cx} {A : Around} {H : Hs} {a c : Addr} {fd : FuncData} {ks cn : List Str} {ds : List D} {Q : D → Hs → Prop} {cs : Nat → List (Str × Addr)} (ho : (Frg X.w).lookup a = some { cls := .type "function", data := .func fd }) (hc : csK.contains (a, c) = true) (hcode : fd.code = .ref c) (hq : fnQual (Frg X.w) a = some fd.qualname)
    (hroom : A.depth < recursionLimit) (hbody : fd.body = .stmts (stmtsOf fd.body)) (hb : AllV ks.length fun vs => bindArgs fd ⟨vs, []⟩ = pure (ks.zip vs)) (hlen : ks.length = ds.length) (hk : chk fd ks cn = true) (hcells : ∀ n, cellsFrom n fd.scope.names [] = cs n) (hfst : ∀ n, (cs n).map (·.1) = cn)
    (h : ∀ L, Ex X (A.deeper (callEnvC fd L a)) (execs (stmtsOf fd.body) (callEnvC fd L a)) ((L, .ns (locs fd ks ds)) :: (cellHs (ks.zip ds) (cs (L + 1)) ++ H)) (RetQ Q)) : FnQ X A (.ref a) ds H Q :=
  fn_inCQ' ho hc hcode hq hroom hbody (hb.mono fun vs e s _ => .of_eq e) hlen hk hcells hfst h
theorem Ret.q {d : D} {H' : Hs} {o : Out} {H'' : Hs} (h : Ret d H' o H'') : RetQ (fun d' K => d' = d ∧ K = H') o H'' := ⟨d, H', h.1, h.2, rfl, rfl⟩
theorem fn_inC {X : Cx} {A : Around} {H H' : Hs} {a c : Addr} {fd : FuncData} {ks cn : List Str} {ds : List D} {d : D} {cs : Nat → List (Str × Addr)} (ho : (Frg X.w).lookup a = some { cls := .type "function", data := .func fd }) (hc : csK.contains (a, c) = true) (hcode : fd.code = .ref c) (hq : fnQual (Frg X.w) a = some fd.qualname)
    (hroom : A.depth < recursionLimit) (hbody : fd.body = .stmts (stmtsOf fd.body)) (hb : AllV ks.length fun vs => bindArgs fd ⟨vs, []⟩ = pure (ks.zip vs)) (hlen : ks.length = ds.length) (hk : chk fd ks cn = true) (hcells : ∀ n, cellsFrom n fd.scope.names [] = cs n) (hfst : ∀ n, (cs n).map (·.1) = cn)
    (h : ∀ L, Ex X (A.deeper (callEnvC fd L a)) (execs (stmtsOf fd.body) (callEnvC fd L a)) ((L, .ns (locs fd ks ds)) :: (cellHs (ks.zip ds) (cs (L + 1)) ++ H)) (Ret d H')) : Fn X A (.ref a) ds H d H' :=
  (fn_inCQ ho hc hcode hq hroom hbody hb hlen hk hcells hfst fun L => (h L).weak fun o K r => r.q).fn
end Mine
namespace Mine
/-- the same names, each told anew -/
inductive ConvL (F F' : Fz) : List (Str × D) → List (Str × D) → Prop
  | nil : ConvL F F' [] []
  | cons {x : Str} {d d' : D} {fs fs' : List (Str × D)} (h : ∀ v, d.is F v → d'.is F' v) (r : ConvL F F' fs fs') : ConvL F F' ((x, d) :: fs) ((x, d') :: fs')
theorem ConvL.mono {F F' : Fz} (l : Le F F') : ∀ {fs : List (Str × D)}, ConvL F F' fs fs
  | [] => .nil
  | (x, d) :: fs => .cons (fun v h => d.mono l h) (ConvL.mono l)
theorem ConvL.look {F F' : Fz} {fs fs' : List (Str × D)} (c : ConvL F F' fs fs') (x : Str) : (∀ d', fs'.lookup x = some d' → ∃ d, fs.lookup x = some d ∧ ∀ v, d.is F v → d'.is F' v) ∧ (fs'.lookup x = none → fs.lookup x = none) ∧ fs.length = fs'.length := by
  induction c with
  | nil => exact ⟨(fun d' h => by cases h), fun h => h, rfl⟩
  | @cons y d d' fs fs' h r ih =>
    rw [List.lookup_cons, List.lookup_cons]
    cases hb : x == y with
    | true => exact ⟨fun e he => by cases he; exact ⟨d, rfl, h⟩, (fun he => by cases he), congrArg (· + 1) ih.2.2⟩
    | false => exact ⟨ih.1, ih.2.1, congrArg (· + 1) ih.2.2⟩
theorem AttrsIs.conv {F F' : Fz} {fs fs' : List (Str × D)} {o : Obj} (h : AttrsIs fs F o) (c : ConvL F F' fs fs') : AttrsIs fs' F' o := by
  cases h with
  | mk es n e k z r a =>
    exact .mk es n e k (by rw [← (c.look "").2.2]; exact z) (fun x d' hd => by
      obtain ⟨d, h1, h2⟩ := (c.look x).1 d' hd
      exact (r x d h1).imp fun v q => ⟨q.1, h2 v q.2⟩) fun x hx => a x ((c.look x).2.1 hx)
theorem NsIs.conv {F F' : Fz} {m m' : List (Str × D)} {o : Obj} (h : NsIs m F o) (c : ConvL F F' m m') : NsIs m' F' o := by
  cases h with
  | mk es ep d k r =>
    exact .mk es ep d k fun x d' hd => by
      obtain ⟨d, h1, h2⟩ := (c.look x).1 d' hd
      exact (r x d h1).imp fun v q => ⟨q.1, h2 v q.2⟩
section
variable {X : Cx} {A : Around} {env : Env} {H H' H₁ H₂ K Z : Hs} {R : Out → Hs → Prop} {e : Expr} {ss : List Stmt}
/-- x = [[] for y in ys] -/
theorem ex_rows {x : Str} {items : List D} {cl : List (Str × Addr)} {m : List (Str × D)} (he : ss = .Assign [.Name x (z1 ss).pos] (z0 ss) (posS ss) :: ss.tail) (hc : CompIs (z0 ss) []) (c : Cmp env (scopeE (z0 ss)) cl (k2 (z0 ss)))
    (src : SrcE X A (eval (k2 (z0 ss)) env) (k1 (z0 ss)) items Z H ((env.locals, .ns m) :: K)) (hsz : items.length ≤ sizeLine)
    (a : ∀ C T d (K : Hs), d ∈ items → ∃ m, Asg X A (compEnvC (scopeE (z0 ss)) cl C env) (k1 (z0 ss)) d ((C, .ns []) :: (K ++ T)) ((C, .ns m) :: (K ++ T))) (hn : k0 (z0 ss) = .List [] (k0 (z0 ss)).pos) (hb : stoB env x = true)
    (hsw : swapsWith (z0 ss) (some (.Name x (z1 ss).pos)) (posS ss).line env = pure true)
    (k : ∀ as : List Addr, as.length = items.length → Ex X A (execs ss.tail env) ((env.locals, .ns ((x, .lst (as.map D.ptr)) :: m)) :: (Z ++ (rowsH as (List.replicate items.length []) ++ K))) R) : Ex X A (execs ss env) H R :=
  ex_comp (Z := Z) (fun j ds K' => ∃ as : List Addr, as.length = j ∧ ds = as.map D.ptr ∧ K' = rowsH as (List.replicate j []) ++ (env.locals, .ns m) :: K) he hc c src hsz ⟨[], rfl, rfl, rfl⟩ (fun C T j ds K' d hj hd => by
    obtain ⟨as, hl, rfl, rfl⟩ := hj
    obtain ⟨m', ha⟩ := a C T d (rowsH as (List.replicate j []) ++ (env.locals, .ns m) :: K) (List.mem_of_getElem? hd)
    refine .mk _ _ true ha tst_nil (fun hb => by cases hb) fun _ => (turn_row hl hn)) hsw fun ds K' ⟨as, hl, e, e'⟩ => by
      subst e e'
      refine ⟨_, fun C => bnd_local hb (.tail _ (List.mem_append_right _ (List.mem_append_right _ (.head _)))) (Up.tail (Up.app (Up.app Up.head))), (k as hl).step (Stp.perm ((List.Perm.append_left Z List.perm_middle).trans List.perm_middle))⟩
/-- a new list bound to a name that is kept in a cell -/
theorem ex_newC {x : Str} {c : Addr} {o₀ : Option D} {ds : List D} {m : List (Str × D)} {H₂ : Addr → Hs} (he : ss = .Assign [.Name x (z1 ss).pos] (z0 ss) (posS ss) :: ss.tail) (hb : (env.scope.kind == .function && env.kindOf x == some .cell) = true) (hc : env.cells.lookup x = some c)
    (h : New X A (eval (z0 ss) env) H ds ((env.locals, P.ns m) :: H₁)) (hm : (c, P.cell o₀) ∈ H₁) (u : ∀ a, Up c (.cell (some (.ptr a))) H₁ (H₂ a)) (hs : swapsWith (z0 ss) (some (.Name x (z1 ss).pos)) (posS ss).line env = pure false)
    (k : ∀ a, Ex X A (execs ss.tail env) ((env.locals, P.ns m) :: (a, .lst ds) :: H₂ a) R) : Ex X A (execs ss env) H R :=
  ex_new he h hs fun a => ⟨_, bnd_cell hb hc (.tail _ (.tail _ hm)) (Up.tail (Up.tail (u a))), (k a).step (Stp.perm (List.Perm.swap ..))⟩
theorem EvQ.perm {t : Sem Value} {Q Q' : D → Hs → Prop} (h : EvQ X A t H Q) (k : ∀ d K, Q d K → ∃ K', List.Perm K K' ∧ Q' d K') : EvQ X A t H Q' := fun F s S =>
  wpAny_mono (h F s S) (fun v s' z => by
    cases z with
    | mk F' d H' l S r q => obtain ⟨K', p, q'⟩ := k d H' q; exact ⟨F', d, K', l, S.perm p, r, q'⟩) fun _ _ e => e
/-- a new list bound to an attribute of what is made -/
theorem ex_setattrN {name : Str} {C dx : Addr} {ds : List D} {m fs : List (Str × D)} (he : SetA ss name) (h : New X A (eval (z0 ss) env) H ds ((env.locals, .ns m) :: (dx, .attrs fs) :: K)) (Kc : Cls X C) (ht : takerIn (Frg X.w) C name = some none)
    (hs : swapsWith (z0 ss) (some (.Attribute (k0 (z1 ss)) name (z1 ss).pos)) (posS ss).line env = pure false)
    (ho : ∀ a, Ev X A (eval (k0 (z1 ss)) env) ((env.locals, .ns m) :: (dx, .attrs fs) :: (a, .lst ds) :: K) (.self C dx) ((env.locals, .ns m) :: (dx, .attrs fs) :: (a, .lst ds) :: K)) (hz : Nat.ble fs.length sizeLine = true)
    (k : ∀ a, Ex X A (execs ss.tail env) ((env.locals, .ns m) :: (dx, .attrs ((name, .ptr a) :: fs)) :: (a, .lst ds) :: K) R) : Ex X A (execs ss env) H R :=
  ex_setattrQ (C := C) (dx := dx) (Q := fun d K' => ∃ a, d = .ptr a ∧ K' = (env.locals, .ns m) :: (dx, .attrs fs) :: (a, .lst ds) :: K) he ((New.q h).perm fun d K' ⟨a, e, e'⟩ => ⟨_, e' ▸ (List.Perm.swap ..).trans ((List.Perm.swap ..).cons _), a, e, rfl⟩) Kc ht hs fun d K' ⟨a, e, e'⟩ => by
    subst e e'
    exact ⟨_, _, ho a, .tail _ (.head _), Up.tail Up.head, Nat.le_of_ble_eq_true hz, k a⟩
/-- one place's words changed -/
theorem St.put {F' : Fz} {s : Shared} {a : Addr} {p p' : P} (S : St X ((a, p) :: H) F' s) (k : ∀ o, p.is F' o → p'.is F' o) : St X ((a, p') :: H) F' s where
  base := S.base
  frz := S.frz
  tur := fun q hq => (List.mem_cons.mp hq).elim (fun e => e ▸ (S.tur (a, p) List.mem_cons_self).imp fun o h => ⟨h.1, k o h.2⟩) fun hq => S.tur q (List.mem_cons_of_mem _ hq)
  nd := S.nd
  sep := fun q hq => (List.mem_cons.mp hq).elim (fun e => e ▸ S.sep (a, p) List.mem_cons_self) fun hq => S.sep q (List.mem_cons_of_mem _ hq)
  gens := S.gens
  os := S.os
theorem St.putA {F F' : Fz} {s : Shared} {a : Addr} {fs fs' : List (Str × D)} {o : Obj} (S : St X ((a, .attrs fs) :: H) F' s) (c : ∀ o, (P.attrs fs).is F' o → AttrsIs fs' F' o) : St X ((a, .attrs fs') :: H) F' s := S.put c
end
end Mine
namespace Mine
section
variable {X : Cx} {A : Around} {env : Env} {H H' H₁ H₂ K Z : Hs} {R : Out → Hs → Prop} {e : Expr} {ss : List Stmt}
/-- [g(x) for x in xs], nothing else turned -/
theorem ev_compA {α : Type} (xs : List α) (f g : α → D) {cl : List (Str × Addr)} (he : CompIs e []) (c : Cmp env (scopeE e) cl (k2 e)) (src : SrcE X A (eval (k2 e) env) (k1 e) (xs.map f) [] H H₁) (hsz : xs.length ≤ sizeLine)
    (turn : ∀ C T x, x ∈ xs → ∃ m, Asg X A (compEnvC (scopeE e) cl C env) (k1 e) (f x) ((C, .ns []) :: (H₁ ++ T)) ((C, .ns m) :: (H₁ ++ T)) ∧ Ev X A (eval (k0 e) (compEnvC (scopeE e) cl C env)) ((C, .ns m) :: (H₁ ++ T)) (g x) ((C, .ns m) :: (H₁ ++ T))) : Ev X A (eval e env) H (.lst (xs.map g)) H₁ := by
  have := ev_comp xs f g (fun _ => true) he c src hsz fun C T x hx => by
    obtain ⟨m, a, h⟩ := turn C T x hx
    exact (turn_all (m := m) (m' := m) (K := H₁) (e := g x) a h).weak fun o K h => h
  rwa [List.filter_eq_self.mpr fun _ _ => rfl] at this
/-- [g(x) for x in xs if p(x)] -/
theorem ev_compF {α : Type} (xs : List α) (f g : α → D) (p : α → Bool) {cond : Expr} {cl : List (Str × Addr)} (he : CompIs e [cond]) (c : Cmp env (scopeE e) cl (k2 e)) (src : SrcE X A (eval (k2 e) env) (k1 e) (xs.map f) [] H H₁) (hsz : xs.length ≤ sizeLine)
    (turn : ∀ C T x, x ∈ xs → ∃ m, Asg X A (compEnvC (scopeE e) cl C env) (k1 e) (f x) ((C, .ns []) :: (H₁ ++ T)) ((C, .ns m) :: (H₁ ++ T)) ∧ Tests X A cond (compEnvC (scopeE e) cl C env) ((C, .ns m) :: (H₁ ++ T)) (p x) ((C, .ns m) :: (H₁ ++ T)) ∧
      (p x = true → Ev X A (eval (k0 e) (compEnvC (scopeE e) cl C env)) ((C, .ns m) :: (H₁ ++ T)) (g x) ((C, .ns m) :: (H₁ ++ T)))) : Ev X A (eval e env) H (.lst ((xs.filter p).map g)) H₁ :=
  ev_comp xs f g p he c src hsz fun C T x hx => by
    obtain ⟨m, a, t, h⟩ := turn C T x hx
    exact turn_if a t h
theorem cd_idx {xs : List Str} {y : Str} (h : y ∈ xs) (hz : xs.length ≤ 64) : CallD X A (.builtin "list.index") [.lst (xs.map D.str), .str y] H (.int (xs.idxOf y : Nat)) H := by
  have hl := List.idxOf_lt_length_of_mem h
  refine cd_index sq ?_ (fun m hm e => ?_) (sz64 (Nat.le_trans (Nat.le_of_lt hl) hz))
  · rw [List.getElem?_eq_getElem hl, List.getElem_idxOf]
  · have hm' : m < xs.length := Nat.lt_trans hm hl
    rw [List.getElem?_eq_getElem hm'] at e
    unfold List.idxOf at hm; have hb := List.not_of_lt_findIdx hm; rw [Option.some.inj e, beq_self_eq_true] at hb; cases hb
end
end Mine
namespace Mine
def SOk (xs : List Str) : Prop := ∀ x ∈ xs, PyData.strOk x = true
theorem SOk.lay {xs : List Str} (h : SOk xs) : PyData.canLayAll0 (xs.map .str) = true := by
  induction xs with
  | nil => rfl
  | cons x xs ih =>
    show (PyData.canLay0 (.str x) && PyData.canLayAll0 (xs.map .str)) = true
    rw [ih fun y hy => h y (List.mem_cons_of_mem _ hy), Bool.and_true]
    exact h x List.mem_cons_self
theorem eqv_strs {xs : List Str} {x : Str} : ((xs.map PyData.str).any fun y => PyData.eqv y (.str x)) = xs.contains x := by
  induction xs with
  | nil => rfl
  | cons y xs ih =>
    rw [List.map_cons, List.any_cons, ih, List.contains_cons]
    show (PyData.eqv (.str y) (.str x) || _) = _
    rw [show PyData.eqv (.str y) (.str x) = (y == x) from by rw [PyData.eqv.eq_def], BEq.comm]
theorem depth_strs {xs : List Str} : PyData.depthAll (xs.map .str) = 0 := by
  induction xs with
  | nil => rfl
  | cons x xs ih => show max (PyData.depth (.str x)) (PyData.depthAll (xs.map .str)) = 0; rw [ih]; rfl
theorem rdl_strs {xs : List Str} : RdL (xs.map D.str) (xs.map PyData.str) := RdL.map fun x _ => rd_str
section
variable {X : Cx} {A : Around} {env : Env} {H H' H₁ H₂ K Z : Hs} {R : Out → Hs → Prop} {e : Expr} {ss : List Stmt} {n : Nat}
theorem op_inS {d : D} {xs : List Str} {x : Str} (hA : Rm A n) (q : Sq X H "list" d (xs.map D.str)) (h : SOk xs) (hx : PyData.strOk x = true) : Op2 X A (compareOp .In) (.str x) d H (.bool (xs.contains x)) H := by
  have := op_in (A := A) (rd_str (x := x)).s (q.rd rdl_strs) hx h.lay (hA.fit1 (Nat.le_trans (Nat.min_le_left _ _) (by rw [depth_strs]; exact Nat.zero_le _)))
  rwa [eqv_strs] at this
theorem op_notinS {d : D} {xs : List Str} {x : Str} (hA : Rm A n) (q : Sq X H "list" d (xs.map D.str)) (h : SOk xs) (hx : PyData.strOk x = true) : Op2 X A (compareOp .NotIn) (.str x) d H (.bool (!xs.contains x)) H := by
  have := op_notin (A := A) (rd_str (x := x)).s (q.rd rdl_strs) hx h.lay (hA.fit1 (Nat.le_trans (Nat.min_le_left _ _) (by rw [depth_strs]; exact Nat.zero_le _)))
  rwa [eqv_strs] at this
theorem op_notinTS {xs : List Str} {x : Str} (hA : Rm A n) (h : SOk xs) (hx : PyData.strOk x = true) : Op2 X A (compareOp .NotIn) (.str x) (.tup (xs.map D.str)) H (.bool (!xs.contains x)) H := by
  have := op_notinT (X := X) (A := A) (H := H) (rd_str (x := x)).s (rd_tup (rdl_strs (xs := xs))).s hx h.lay (hA.fit1 (Nat.le_trans (Nat.min_le_left _ _) (by rw [depth_strs]; exact Nat.zero_le _)))
  rwa [eqv_strs] at this
theorem eqv_nil {ps : List PyData} : PyData.eqv (.list ps) (.list []) = ps.isEmpty := by
  cases ps <;> simp [PyData.eqv, PyData.eqvAll]
theorem op_eqNil {d : D} {ds : List D} {ps : List PyData} (hA : Rm A n) (q : Sq X H "list" d ds) (r : RdL ds ps) (h : PyData.canLayAll0 ps = true) : Op2 X A (compareOp .Eq) d (.lst []) H (.bool ps.isEmpty) H := by
  have := op_eq (A := A) (q.rd r) (rd_lst (.nil)).s h rfl (hA.fit (Nat.le_trans (Nat.min_le_right _ _) (by decide)))
  rwa [eqv_nil] at this
theorem op_neNil {d : D} {ds : List D} {ps : List PyData} (hA : Rm A n) (q : Sq X H "list" d ds) (r : RdL ds ps) (h : PyData.canLayAll0 ps = true) : Op2 X A (compareOp .NotEq) d (.lst []) H (.bool (!ps.isEmpty)) H := by
  have := op_ne (A := A) (q.rd r) (rd_lst (.nil)).s h rfl (hA.fit (Nat.le_trans (Nat.min_le_right _ _) (by decide)))
  rwa [eqv_nil] at this
/-- [..] == [] of texts -/
theorem op_eqNilS {xs : List Str} (hA : Rm A n) (h : SOk xs) : Op2 X A (compareOp .Eq) (.lst (xs.map D.str)) (.lst []) H (.bool xs.isEmpty) H := by
  have := op_eqNil (X := X) (H := H) (d := .lst (xs.map D.str)) hA sq (rdl_strs (xs := xs)) h.lay
  rwa [List.isEmpty_map] at this
theorem lays_map {α : Type} {f : α → PyData} {xs : List α} (h : ∀ x ∈ xs, (f x).canLay0 = true) : PyData.canLayAll0 (xs.map f) = true := by
  induction xs with
  | nil => rfl
  | cons x xs ih =>
    show (PyData.canLay0 (f x) && PyData.canLayAll0 (xs.map f)) = true
    rw [ih fun y hy => h y (List.mem_cons_of_mem _ hy), Bool.and_true]
    exact h x List.mem_cons_self
/-- [..] == [] of numbers -/
theorem op_eqNilN {xs : List Nat} (hA : Rm A n) : Op2 X A (compareOp .Eq) (.lst (xs.map dN)) (.lst []) H (.bool xs.isEmpty) H := by
  have := op_eqNil (X := X) (H := H) (d := .lst (xs.map dN)) hA sq (RdL.map (g := fun x : Nat => PyData.int x) fun x _ => rd_int) (lays_map fun _ _ => rfl)
  rwa [List.isEmpty_map] at this
theorem ex_compA {α : Type} (xs : List α) (f g : α → D) {cl : List (Str × Addr)} {x : Str} (he : ss = .Assign [.Name x (z1 ss).pos] (z0 ss) (posS ss) :: ss.tail) (hc : CompIs (z0 ss) []) (c : Cmp env (scopeE (z0 ss)) cl (k2 (z0 ss)))
    (src : SrcE X A (eval (k2 (z0 ss)) env) (k1 (z0 ss)) (xs.map f) [] H H₁) (hsz : xs.length ≤ sizeLine)
    (turn : ∀ C T x, x ∈ xs → ∃ m, Asg X A (compEnvC (scopeE (z0 ss)) cl C env) (k1 (z0 ss)) (f x) ((C, .ns []) :: (H₁ ++ T)) ((C, .ns m) :: (H₁ ++ T)) ∧ Ev X A (eval (k0 (z0 ss)) (compEnvC (scopeE (z0 ss)) cl C env)) ((C, .ns m) :: (H₁ ++ T)) (g x) ((C, .ns m) :: (H₁ ++ T)))
    (b : ∀ C, Bnd X A env x (.lst (xs.map g)) ((C, .ns []) :: H₁) ((C, .ns []) :: H₂))
    (hsw : swapsWith (z0 ss) (some (.Name x (z1 ss).pos)) (posS ss).line env = pure true) (k : Ex X A (execs ss.tail env) H₂ R) : Ex X A (execs ss env) H R := by
  refine ex_compP xs f g (fun _ => true) he hc c src hsz (fun C T x hx => ?_) ?_ hsw k
  · obtain ⟨m, a, h⟩ := turn C T x hx
    exact (turn_all (m := m) (m' := m) (K := H₁) (e := g x) a h).weak fun o K h => h
  · rwa [List.filter_eq_self.mpr fun _ _ => rfl]
theorem ex_compF {α : Type} (xs : List α) (f g : α → D) (p : α → Bool) {cond : Expr} {cl : List (Str × Addr)} {x : Str} (he : ss = .Assign [.Name x (z1 ss).pos] (z0 ss) (posS ss) :: ss.tail) (hc : CompIs (z0 ss) [cond]) (c : Cmp env (scopeE (z0 ss)) cl (k2 (z0 ss)))
    (src : SrcE X A (eval (k2 (z0 ss)) env) (k1 (z0 ss)) (xs.map f) [] H H₁) (hsz : xs.length ≤ sizeLine)
    (turn : ∀ C T x, x ∈ xs → ∃ m, Asg X A (compEnvC (scopeE (z0 ss)) cl C env) (k1 (z0 ss)) (f x) ((C, .ns []) :: (H₁ ++ T)) ((C, .ns m) :: (H₁ ++ T)) ∧ Tests X A cond (compEnvC (scopeE (z0 ss)) cl C env) ((C, .ns m) :: (H₁ ++ T)) (p x) ((C, .ns m) :: (H₁ ++ T)) ∧
      (p x = true → Ev X A (eval (k0 (z0 ss)) (compEnvC (scopeE (z0 ss)) cl C env)) ((C, .ns m) :: (H₁ ++ T)) (g x) ((C, .ns m) :: (H₁ ++ T))))
    (b : ∀ C, Bnd X A env x (.lst ((xs.filter p).map g)) ((C, .ns []) :: H₁) ((C, .ns []) :: H₂))
    (hsw : swapsWith (z0 ss) (some (.Name x (z1 ss).pos)) (posS ss).line env = pure true) (k : Ex X A (execs ss.tail env) H₂ R) : Ex X A (execs ss env) H R :=
  ex_compP xs f g p he hc c src hsz (fun C T x hx => by
    obtain ⟨m, a, t, h⟩ := turn C T x hx
    exact turn_if a t h) b hsw k
theorem ev_nil {e : Expr} (he : e = .List [] e.pos) : Ev X A (eval e env) H (.lst []) H := by
  have hk : kids e = [] := by rw [he]; rfl
  exact (new_list (by rw [hk]; exact he) (by rw [hk]; exact as_nil) rfl).ev
end
end Mine
namespace Mine
noncomputable abbrev fdTD : FuncData := fdOf (topAt 5) "" .none pmG 136
theorem boot_sorted : bootBuiltins "sorted" = some (.builtin "sorted") := by decide +kernel
noncomputable def dLv (q : Int × Int × Str) : D := .tup [.int q.1, lvD q]
noncomputable def dToldG (g : Gram) : D := .tup [.tup (g.names.map .str), dN g.tc, .tup (g.rules.map dTold), .tup (g.lv.map dLv), dOI g.expect, dN g.start]
section
variable {X : Cx} {A : Around} {H : Hs} {n : Nat} {g : Gram}
theorem lt_le {l : List Int} (h : l.Pairwise (· < ·)) : l.Pairwise (· ≤ ·) := h.imp fun h => Int.le_of_lt h
theorem filt {α : Type} {xs : List α} {f : α → D} : (xs.filter fun _ => true).map f = xs.map f := by rw [List.filter_eq_self.mpr fun _ _ => rfl]
theorem Gram.Ok.dTold_sz (hg : g.Ok) : (g.rules.map dTold).length ≤ sizeLine := by rw [List.length_map]; exact sz64 hg.rz
theorem w_told (hA : Rm A (n + 2)) (hg : g.Ok) : Fn X A (.ref 137) [dGram X g] H (dToldG g) H := by
  refine fn_in (fd := fdTD) (c := 136) (ks := ["grammar"]) (cn := ["grammar"]) (ds := [dGram X g]) rfl rfl rfl rfl hA.lt rfl (fun _ => rfl) rfl rfl (fun _ => rfl) fun L => ?_
  show Ex X _ _ ((L, P.ns []) :: (L + 1, P.cell (some (dGram X g))) :: H) _
  have hB : Rm (A.deeper (callEnvC fdTD L 137)) (n + 1) := hA.deeper
  apply ex_assign
  rfl
  apply call1
  rfl
  rfl
  rfl
  exact ev_builtin rfl rfl rfl boot_tuple
  first | exact .inl ⟨_, rfl⟩ | exact .inr (.inl ⟨_, rfl⟩) | exact .inr (.inr (by kernel_rfl))
  refine ev_comp (H₁ := ((L, P.ns []) :: (L + 1, P.cell (some (dGram X g))) :: H)) (cl := [("grammar", L + 1)]) (ifs := []) g.lv (fun q => .int q.1) dLv (fun _ => true) rfl ⟨rfl, rfl, rfl, rfl, fun _ => rfl⟩ (srcE (d := .lst (g.lv.map fun q => .int q.1)) ?_ (src_list hB.hh fun _ _ => rfl)) (Nat.le_trans hg.vz (Nat.le_of_ble_eq_true rfl)) fun C T q hq => ?_
  · have := (cn_sorted (X := X) (A := A.deeper (callEnvC fdTD L 137)) (ds := g.lv.map lvD) hB.hh (L := L) (m := []) (H := (L, P.ns []) :: (L + 1, P.cell (some (dGram X g))) :: H) (.head _) (lt_le hg.lv) (by rw [List.length_map]; exact Nat.lt_of_le_of_lt hg.vz (by decide))).d
    rw [List.map_map] at this
    apply call1
    rfl
    rfl
    rfl
    exact ev_builtin rfl rfl rfl boot_sorted
    first | exact .inl ⟨_, rfl⟩ | exact .inr (.inl ⟨_, rfl⟩) | exact .inr (.inr (by kernel_rfl))
    apply cG
    rfl
    rfl
    rfl
    first | exact .head _ | exact .tail _ (.head _) | exact .tail _ (.tail _ (.head _)) | exact .tail _ (.tail _ (.tail _ (.head _))) | exact .tail _ (.tail _ (.tail _ (.tail _ (.head _)))) | exact .tail _ (.tail _ (.tail _ (.tail _ (.tail _ (.head _)))))
    rfl
    exact this
  · obtain ⟨i, hi⟩ := List.mem_iff_getElem?.mp hq
    refine (turn_all (m := [("terminal", .int q.1)]) (m' := [("terminal", .int q.1)]) (K := (L, P.ns []) :: (L + 1, P.cell (some (dGram X g))) :: H) (e := dLv q) (Bnd.asg rfl (bnd_local rfl (.head _) Up.head)) ?_).weak fun o K h => h
    apply ev_tup
    rfl
    apply as_cons
    rfl
    rfl
    exact ev_local rfl rfl rfl
    apply as_cons
    rfl
    rfl
    apply ev_dget
    rfl
    apply cG
    rfl
    rfl
    rfl
    first | exact .head _ | exact .tail _ (.head _) | exact .tail _ (.tail _ (.head _)) | exact .tail _ (.tail _ (.tail _ (.head _))) | exact .tail _ (.tail _ (.tail _ (.tail _ (.head _)))) | exact .tail _ (.tail _ (.tail _ (.tail _ (.tail _ (.head _)))))
    rfl
    exact ev_local rfl rfl rfl
    exact (show (g.lv.map lvK)[i]? = some q.1 by rw [List.getElem?_map, hi]; rfl)
    exact (show (g.lv.map lvD)[i]? = some (lvD q) by rw [List.getElem?_map, hi]; rfl)
    exact fun _ _ => rfl
    exact as_nil
    rfl
  rw [filt]
  exact cd_tuple sq (by rw [List.length_map]; exact Nat.le_trans hg.vz (Nat.le_of_ble_eq_true rfl))
  exact bnd_local rfl (.head _) Up.head
  rfl
  apply ex_assign
  rfl
  apply call1
  rfl
  rfl
  rfl
  exact ev_builtin rfl rfl rfl boot_tuple
  first | exact .inl ⟨_, rfl⟩ | exact .inr (.inl ⟨_, rfl⟩) | exact .inr (.inr (by kernel_rfl))
  refine ev_comp (H₁ := ((L, P.ns [("levels", .tup (g.lv.map dLv))]) :: (L + 1, P.cell (some (dGram X g))) :: H)) (cl := []) (ifs := []) g.rules dRule dTold (fun _ => true) rfl ⟨rfl, rfl, rfl, rfl, fun _ => rfl⟩ (srcE (d := .lst (g.rules.map dRule)) ?_ (src_list hB.hh fun _ _ => rfl)) (sz64 hg.rz) fun C T r hr => ?_
  · apply cG
    rfl
    rfl
    rfl
    first | exact .head _ | exact .tail _ (.head _) | exact .tail _ (.tail _ (.head _)) | exact .tail _ (.tail _ (.tail _ (.head _))) | exact .tail _ (.tail _ (.tail _ (.tail _ (.head _)))) | exact .tail _ (.tail _ (.tail _ (.tail _ (.tail _ (.head _)))))
    rfl
  · refine (turn_all (m := [("rule", dRule r)]) (m' := [("rule", dRule r)]) (K := ((L, P.ns [("levels", .tup (g.lv.map dLv))]) :: (L + 1, P.cell (some (dGram X g))) :: H)) (e := dTold r) (Bnd.asg rfl (bnd_local rfl (.head _) Up.head)) ?_).weak fun o K h => h
    apply call1
    rfl
    rfl
    rfl
    exact ev_global rfl rfl rfl
    first | exact .inl ⟨_, rfl⟩ | exact .inr (.inl ⟨_, rfl⟩) | exact .inr (.inr (by kernel_rfl))
    exact ev_local rfl rfl rfl
    exact (w_rule_told (n := n) hB).call
  rw [filt]
  exact cd_tuple sq hg.dTold_sz
  exact bnd_local rfl (.head _) Up.head
  rfl
  apply ex_ret
  rfl
  apply ev_tup
  rfl
  apply as_cons
  rfl
  rfl
  apply call1
  rfl
  rfl
  rfl
  exact ev_builtin rfl rfl rfl boot_tuple
  first | exact .inl ⟨_, rfl⟩ | exact .inr (.inl ⟨_, rfl⟩) | exact .inr (.inr (by kernel_rfl))
  apply cG
  rfl
  rfl
  rfl
  first | exact .head _ | exact .tail _ (.head _) | exact .tail _ (.tail _ (.head _)) | exact .tail _ (.tail _ (.tail _ (.head _))) | exact .tail _ (.tail _ (.tail _ (.tail _ (.head _)))) | exact .tail _ (.tail _ (.tail _ (.tail _ (.tail _ (.head _)))))
  rfl
  exact cd_tuple sq hg.names_sz
  apply as_cons
  rfl
  rfl
  apply cG
  rfl
  rfl
  rfl
  first | exact .head _ | exact .tail _ (.head _) | exact .tail _ (.tail _ (.head _)) | exact .tail _ (.tail _ (.tail _ (.head _))) | exact .tail _ (.tail _ (.tail _ (.tail _ (.head _)))) | exact .tail _ (.tail _ (.tail _ (.tail _ (.tail _ (.head _)))))
  rfl
  apply as_cons
  rfl
  rfl
  exact ev_local rfl rfl rfl
  apply as_cons
  rfl
  rfl
  exact ev_local rfl rfl rfl
  apply as_cons
  rfl
  rfl
  apply cG
  rfl
  rfl
  rfl
  first | exact .head _ | exact .tail _ (.head _) | exact .tail _ (.tail _ (.head _)) | exact .tail _ (.tail _ (.tail _ (.head _))) | exact .tail _ (.tail _ (.tail _ (.tail _ (.head _)))) | exact .tail _ (.tail _ (.tail _ (.tail _ (.tail _ (.head _)))))
  rfl
  apply as_cons
  rfl
  rfl
  apply cG
  rfl
  rfl
  rfl
  first | exact .head _ | exact .tail _ (.head _) | exact .tail _ (.tail _ (.head _)) | exact .tail _ (.tail _ (.tail _ (.head _))) | exact .tail _ (.tail _ (.tail _ (.tail _ (.head _)))) | exact .tail _ (.tail _ (.tail _ (.tail _ (.tail _ (.head _)))))
  rfl
  exact as_nil
  rfl
  exact ⟨.inl rfl, .skip (.skip .rfl)⟩
end
end Mine
namespace Mine
noncomputable abbrev fdRI : FuncData := fdOf (inCls (topAt 2) 0) "Rule." (.ref 29) pmG 35
section
variable {X : Cx} {A : Around} {H : Hs} {n : Nat} {g : Gram}
theorem w_rule_init (hA : Rm A (n + 1)) {dx : Addr} {r : RuleD} : Fn X A (.ref 36) [.self 39 dx, dN r.num, dN r.left, .tup (r.right.map dN), .int r.lev, dOS r.act, .int r.line, .int r.before] ((dx, .attrs []) :: H) .none ((dx, .attrs (rFs r)) :: H) := by
  refine fn_in' (fd := fdRI) (c := 35) (ks := ["self", "number", "left", "right", "level_of", "action", "line", "before"]) (cn := []) rfl rfl rfl rfl hA.lt rfl (fun _ _ _ _ _ _ _ _ s K => .of_defaults rfl (K 29 _ rfl) rfl rfl rfl) rfl rfl (fun _ => rfl) fun L => ?_
  show Ex X _ _ ((L, P.ns [("self", .self 39 dx), ("number", dN r.num), ("left", dN r.left), ("right", .tup (r.right.map dN)), ("level_of", .int r.lev), ("action", dOS r.act), ("line", .int r.line), ("before", .int r.before)]) :: (dx, P.attrs []) :: H) _
  refine ex_setattr rfl (ev_local rfl rfl rfl) clsR rfl (ev_local rfl rfl rfl) (.tail _ (.head _)) (Up.tail Up.head) rfl rfl ?_
  refine ex_setattr rfl (ev_local rfl rfl rfl) clsR rfl (ev_local rfl rfl rfl) (.tail _ (.head _)) (Up.tail Up.head) rfl rfl ?_
  refine ex_setattr rfl (ev_local rfl rfl rfl) clsR rfl (ev_local rfl rfl rfl) (.tail _ (.head _)) (Up.tail Up.head) rfl rfl ?_
  refine ex_setattr rfl (ev_local rfl rfl rfl) clsR rfl (ev_local rfl rfl rfl) (.tail _ (.head _)) (Up.tail Up.head) rfl rfl ?_
  refine ex_setattr rfl (ev_local rfl rfl rfl) clsR rfl (ev_local rfl rfl rfl) (.tail _ (.head _)) (Up.tail Up.head) rfl rfl ?_
  refine ex_setattr rfl (ev_local rfl rfl rfl) clsR rfl (ev_local rfl rfl rfl) (.tail _ (.head _)) (Up.tail Up.head) rfl rfl ?_
  refine ex_setattr rfl (ev_local rfl rfl rfl) clsR rfl (ev_local rfl rfl rfl) (.tail _ (.head _)) (Up.tail Up.head) rfl rfl ?_
  exact ex_end rfl ⟨.inr ⟨rfl, rfl⟩, .skip .rfl⟩
theorem f_rule (hA : Rm A (n + 2)) {r : RuleD} : Fn X A (.ref 39) [dN r.num, dN r.left, .tup (r.right.map dN), .int r.lev, dOS r.act, .int r.line, .int r.before] H (dRule r) H :=
  fn_make hA rfl rfl rfl fun B dx hB => w_rule_init hB
end
end Mine
namespace Mine
noncomputable abbrev fdLD : FuncData := fdOf (topAt 20) "" .none pmL 234
noncomputable abbrev fdLK : FuncData := fdOf (topAt 21) "" .none pmL 241
noncomputable abbrev fdLP : FuncData := fdOf (topAt 19) "" .none pmL 227
noncomputable abbrev penP (σ : Int × Int) : P := .lst [.int σ.1, .int σ.2]
noncomputable def pq (σ : Int × Int) : Int × Int := if σ.1 = 0 then (1033 * (σ.2 + 1) + 8009, σ.2 + 1) else σ
noncomputable def dig (m : Nat) (σ : Int × Int) : Nat := ((pq σ).1.fmod m).toNat
noncomputable def nxt (m : Nat) (σ : Int × Int) : Int × Int := ((pq σ).1.fdiv m, (pq σ).2)
theorem dig_lt {m : Nat} {σ : Int × Int} (h : 0 < m) : dig m σ < m := by
  have h' : (0 : Int) < m := Int.ofNat_lt.mpr h
  have := Int.fmod_lt_of_pos (pq σ).1 h'
  have := Int.fmod_nonneg_of_pos (pq σ).1 h'
  unfold dig; omega
theorem dig_int {m : Nat} {σ : Int × Int} (h : 0 < m) : (pq σ).1.fmod m = (dig m σ : Int) := by
  have h' : (0 : Int) < m := Int.ofNat_lt.mpr h
  exact (Int.toNat_of_nonneg (Int.fmod_nonneg_of_pos (pq σ).1 h')).symm
section
variable {X : Cx} {A : Around} {H : Hs} {n : Nat}
theorem w_draw (hA : Rm A (n + 1)) {p : Addr} {m : Nat} {σ : Int × Int} (hm : 0 < m) (hb : m < 2 ^ 30) : Fn X A (.ref 235) [.ptr p, dN m] ((p, penP σ) :: H) (dN (dig m σ)) ((p, penP (nxt m σ)) :: H) := by
  refine fn_in (fd := fdLD) (c := 234) (ks := ["pen", "many"]) (cn := []) (ds := [.ptr p, dN m]) rfl rfl rfl rfl hA.lt rfl (fun _ _ => rfl) rfl rfl (fun _ => rfl) fun L => ?_
  show Ex X _ _ ((L, P.ns [("pen", .ptr p), ("many", dN m)]) :: (p, penP σ) :: H) _
  have tl : ∀ τ : Int × Int, τ = pq σ → Ex X (A.deeper (callEnvC fdLD L 235)) (execs (stmtsOf fdLD.body).tail (callEnvC fdLD L 235)) ((L, P.ns [("pen", .ptr p), ("many", dN m)]) :: (p, penP τ) :: H) (Ret (dN (dig m σ)) ((p, penP (nxt m σ)) :: H)) := by
    rintro _ rfl
    apply ex_assign
    rfl
    apply ev_bin
    rfl
    apply ev_item (k := 0)
    rfl
    exact ev_local rfl rfl rfl
    exact ev_int rfl
    exact sqP (.tail _ (.head _))
    rfl
    exact Nat.le_of_ble_eq_true rfl
    exact fun _ _ => rfl
    exact ev_local rfl rfl rfl
    exact op_mod (Int.ofNat_ne_zero.mpr (Nat.ne_of_gt hm))
    exact bnd_local rfl (.head _) Up.head
    rfl
    apply ex_setitem (k := 0)
    rfl
    apply ev_bin
    rfl
    apply ev_item (k := 0)
    rfl
    exact ev_local rfl rfl rfl
    exact ev_int rfl
    exact sqP (.tail _ (.head _))
    rfl
    exact Nat.le_of_ble_eq_true rfl
    exact fun _ _ => rfl
    exact ev_local rfl rfl rfl
    exact op_div (Int.ofNat_ne_zero.mpr (Nat.ne_of_gt hm)) (by rw [Int.natAbs_natCast]; exact hb)
    exact ev_local rfl rfl rfl
    exact ev_int rfl
    exact .tail _ (.head _)
    exact Nat.le_of_ble_eq_true rfl
    exact Nat.le_of_ble_eq_true rfl
    exact Up.tail Up.head
    rfl
    apply ex_ret
    rfl
    exact ev_local rfl rfl rfl
    exact ⟨.inl (by rw [dig_int hm]; rfl), .skip .rfl⟩
  apply ex_if
  rfl
  apply ask_cmp
  rfl
  apply ev_item (k := 0)
  rfl
  exact ev_local rfl rfl rfl
  exact ev_int rfl
  exact sqP (.tail _ (.head _))
  rfl
  exact Nat.le_of_ble_eq_true rfl
  exact fun _ _ => rfl
  exact ev_int rfl
  exact op_eqi
  rfl
  · intro hT
    apply ex_setitem (k := 1)
    rfl
    apply ev_bin
    rfl
    apply ev_item (k := 1)
    rfl
    exact ev_local rfl rfl rfl
    exact ev_int rfl
    exact sqP (.tail _ (.head _))
    rfl
    exact Nat.le_of_ble_eq_true rfl
    exact fun _ _ => rfl
    exact ev_int rfl
    exact op_add
    exact ev_local rfl rfl rfl
    exact ev_int rfl
    exact .tail _ (.head _)
    exact Nat.le_of_ble_eq_true rfl
    exact Nat.le_of_ble_eq_true rfl
    exact Up.tail Up.head
    rfl
    apply ex_setitem (k := 0)
    rfl
    apply ev_bin
    rfl
    apply ev_bin
    rfl
    exact ev_int rfl
    apply ev_item (k := 1)
    rfl
    exact ev_local rfl rfl rfl
    exact ev_int rfl
    exact sqP (.tail _ (.head _))
    rfl
    exact Nat.le_of_ble_eq_true rfl
    exact fun _ _ => rfl
    exact op_mul (.of_left (by decide))
    exact ev_int rfl
    exact op_add
    exact ev_local rfl rfl rfl
    exact ev_int rfl
    exact .tail _ (.head _)
    exact Nat.le_of_ble_eq_true rfl
    exact Nat.le_of_ble_eq_true rfl
    exact Up.tail Up.head
    rfl
    refine ex_end rfl (thn (tl (1033 * (σ.2 + 1) + 8009, σ.2 + 1) ?_))
    unfold pq
    rw [if_pos (beq_iff_eq.mp hT)]
  · intro hF
    refine ex_end rfl (thn (tl σ ?_))
    unfold pq
    rw [if_neg (beq_eq_false_iff_ne.mp hF)]
theorem w_pick (hA : Rm A (n + 2)) {p : Addr} {ds : List D} {x : D} {σ : Int × Int} (hm : 0 < ds.length) (hb : ds.length ≤ 64) (hx : ds[dig ds.length σ]? = some x) : Fn X A (.ref 242) [.ptr p, .lst ds] ((p, penP σ) :: H) x ((p, penP (nxt ds.length σ)) :: H) := by
  refine fn_in (fd := fdLK) (c := 241) (ks := ["pen", "some"]) (cn := []) (ds := [.ptr p, .lst ds]) rfl rfl rfl rfl hA.lt rfl (fun _ _ => rfl) rfl rfl (fun _ => rfl) fun L => ?_
  show Ex X _ _ ((L, P.ns [("pen", .ptr p), ("some", .lst ds)]) :: (p, penP σ) :: H) _
  have hB : Rm (A.deeper (callEnvC fdLK L 242)) (n + 1) := hA.deeper
  apply ex_ret
  rfl
  apply ev_item
  rfl
  exact ev_local rfl rfl rfl
  apply ev_call
  rfl
  exact ev_global rfl rfl rfl
  first | exact .inl ⟨_, rfl⟩ | exact .inr (.inl ⟨_, rfl⟩) | exact .inr (.inr (by kernel_rfl))
  apply as_cons
  rfl
  rfl
  exact ev_local rfl rfl rfl
  apply as_cons
  rfl
  rfl
  apply call1
  rfl
  rfl
  rfl
  exact ev_builtin rfl rfl rfl boot_len
  first | exact .inl ⟨_, rfl⟩ | exact .inr (.inl ⟨_, rfl⟩) | exact .inr (.inr (by kernel_rfl))
  exact ev_local rfl rfl rfl
  exact cd_len sq (sz64 hb)
  exact as_nil
  exact (Fn.up (H := (L, P.ns [("pen", .ptr p), ("some", .lst ds)]) :: (p, penP σ) :: H) (fun H => w_draw (n := n) hB hm (Nat.lt_of_le_of_lt hb (by decide))) ⟨[(L, P.ns [("pen", .ptr p), ("some", .lst ds)])], H, rfl, rfl⟩).call
  exact sq
  exact hx
  exact sz64 (Nat.le_of_lt (Nat.lt_of_lt_of_le (dig_lt hm) hb))
  exact fun _ _ => rfl
  exact ⟨.inl rfl, .skip .rfl⟩
/-- the script: a list of which no more is known than its class and its items -/
noncomputable def dScr (xs : List Int) : D := ⟨fun F v => ∃ (a : Addr) (o : Obj) (vs : Array Value) (n : Nat), v = .ref a ∧ F a = some o ∧ o.cls = .type "list" ∧ o.data = .seq vs n ∧ RepL F vs.toList (xs.map D.int), fun h ⟨a, o, vs, n, e, f, c, d, r⟩ => ⟨a, o, vs, n, e, h _ _ f, c, d, r.mono h⟩⟩
theorem new_sliceS {env : Env} {H₁ H' : Hs} {e : Expr} {xs : List Int} {es : List D} {hi : Int} (he : e = .Subscript (k0 e) (.Slice none (some (k0 (k1 e))) none (k1 e).pos) e.pos) (h : Ev X A (eval (k0 e) env) H (dScr xs) H₁) (hu : Ev X A (eval (k0 (k1 e)) env) H₁ (.int hi) H') (hz : (xs.map D.int).length ≤ sizeLine)
    (hp : ∀ (F : Fz) (vs : Array Value), RepL F vs.toList (xs.map D.int) → RepL F (slicePick vs none (some hi) none).toList es) : New X A (eval e env) H es H' := fun F s S => by
  rw [he]
  exact Subscript_ (h.mono S fun v F₁ s₁ l₁ S₁ r₁ => wpAny_Slice (wpAny_mono (prt_none F₁ s₁ S₁) (fun w s₂ z => z.2.elim fun F₂ l₂ S₂ => wpAny_mono (prt_some hu F₂ s₂ S₂) (fun w' s₃ z' => z'.2.elim fun F₃ l₃ S₃ => by
    rw [evalPart_none]
    refine wpAny_pure ?_
    obtain ⟨l, o, vs, n, e, f, c, d, r⟩ := (dScr xs).mono (l₂.trans l₃) r₁
    subst e
    have f₀ := S₃.frz _ _ f
    have S₄ := S₃.keeps (tk := s₃.toks) (h' := s₃.heap.push { cls := .type "slice", data := .fields #[w, w', .none] }) fun b q eb => Heap.get?_push_of_some _ eb
    have f' : (s₃.heap.push { cls := .type "slice", data := .fields #[w, w', .none] }).get? l = _ := Heap.get?_push_of_some _ f₀
    exact PyProof.Rows.tail_any ⟨_, f', c⟩ slot_list_getitem.lookup (wpAny_getItem_list_slice ⟨_, f', c, n, d⟩ (Heap.IsSliceOf.new ..) z.1 z'.1 .none (fun e => by cases e) ⟨F₃, _, rfl, (l₁.trans l₂).trans l₃, S₄.pushH (tk := s₃.toks) (p := P.lst es) (PySem.W.listOf (slicePick vs none (some hi) none) 0) (.mk _ _ rfl (hp F₃ vs r))⟩ (by rw [Sq.len (T := "") (d := dScr xs) (s := s) r]; exact hz)) rfl) fun _ _ e => e) fun _ _ e => e))
theorem w_pen (hA : Rm A (n + 1)) {xs : List Int} (hz : xs.length ≤ sizeLine) : FnQ X A (.ref 228) [dScr xs] H fun d K => ∃ p σ, d = .ptr p ∧ K = (p, penP σ) :: H := by
  refine fn_inQ (fd := fdLP) (c := 227) (ks := ["script"]) (cn := []) (ds := [dScr xs]) rfl rfl rfl rfl hA.lt rfl (fun _ => rfl) rfl rfl (fun _ => rfl) fun L => ?_
  show Ex X _ _ ((L, P.ns [("script", dScr xs)]) :: H) _
  have hB : Rm (A.deeper (callEnvC fdLP L 228)) n := hA.deeper
  apply ex_assign
  rfl
  exact ev_int rfl
  exact bnd_local rfl (.head _) Up.head
  rfl
  refine ex_for (H₁ := (L, P.ns [("number", .int 23), ("script", dScr xs)]) :: H) (items := (xs.map D.int).take 63) rfl (srcE (d := .lst ((xs.map D.int).take 63)) ?_ (src_list hB.hh fun _ _ => rfl)) (fun j K => ∃ i : Int, K = (L, P.ns [("number", .int i), ("script", dScr xs)]) :: H) ⟨23, rfl⟩ (fun _ => rfl) (fun T j K d hJ hd => ?_) fun K hJ => ?_
  · apply New.ev
    apply new_sliceS
    rfl
    exact ev_local rfl rfl rfl
    exact ev_int rfl
    exact (by rw [List.length_map]; exact hz)
    exact fun F vs r => pick_upto 63 vs r
  · obtain ⟨i, rfl⟩ := hJ
    rw [← List.map_take] at hd
    obtain ⟨c, hc, rfl⟩ := map_get hd
    refine ⟨_, Bnd.asg rfl (bnd_local rfl (.head _) Up.head), ?_⟩
    apply ex_assign
    rfl
    apply ev_bin
    rfl
    apply ev_bin
    rfl
    apply ev_bin
    rfl
    exact ev_local rfl rfl rfl
    exact ev_int rfl
    exact op_mul (.of_right (by decide))
    apply ev_bin
    rfl
    exact ev_int rfl
    apply call1
    rfl
    rfl
    rfl
    exact ev_builtin rfl rfl rfl boot_abs
    first | exact .inl ⟨_, rfl⟩ | exact .inr (.inl ⟨_, rfl⟩) | exact .inr (.inr (by kernel_rfl))
    apply call1
    rfl
    rfl
    rfl
    exact ev_builtin rfl rfl rfl boot_int
    first | exact .inl ⟨_, rfl⟩ | exact .inr (.inl ⟨_, rfl⟩) | exact .inr (.inr (by kernel_rfl))
    exact ev_local rfl rfl rfl
    exact cd_int
    exact cd_abs
    exact op_mul (.of_left (by decide))
    exact op_add
    apply call1
    rfl
    rfl
    rfl
    exact ev_builtin rfl rfl rfl boot_int
    first | exact .inl ⟨_, rfl⟩ | exact .inr (.inl ⟨_, rfl⟩) | exact .inr (.inr (by kernel_rfl))
    apply ev_cmp
    rfl
    exact ev_local rfl rfl rfl
    exact ev_int rfl
    exact op_lt
    rfl
    exact cd_intB
    exact op_add
    exact bnd_local rfl (.head _) Up.head
    rfl
    refine Ex.ns (m' := [("number", .int _), ("script", dScr xs)]) ?_ (nsk_cons rfl (nsk_cons rfl nsk_nil))
    exact ex_end rfl ⟨.inl rfl, (L, P.ns [("number", .int _), ("script", dScr xs)]) :: H, rfl, _, rfl⟩
  · obtain ⟨i, rfl⟩ := hJ
    refine ex_retQ (Q := fun d K => ∃ a, d = .ptr a ∧ K = (a, .lst [.int i, .int 0]) :: (L, P.ns [("number", .int i), ("script", dScr xs)]) :: H) rfl (New.q ?_) ?_
    · apply new_list
      rfl
      apply as_cons
      rfl
      rfl
      exact ev_local rfl rfl rfl
      apply as_cons
      rfl
      rfl
      exact ev_int rfl
      exact as_nil
      rfl
    · rintro d K ⟨a, rfl, rfl⟩
      exact ⟨_, _, .inl rfl, .same (.skip .rfl), a, (i, 0), rfl, rfl⟩
end
end Mine
namespace Mine
noncomputable abbrev fdLR : FuncData := fdOf (topAt 22) "" .none pmL 246
structure RowD where
  l : Str
  r : List Str
  lev : Int
  act : Option Str
  line : Int
  before : Int
noncomputable def dRow (r : RowD) : D := .tup [.str r.l, .tup (r.r.map .str), .int r.lev, dOS r.act, .int r.line, .int r.before]
noncomputable def accRow (s : Str) : RowD := ⟨"$accept", [s, "$end"], 0, none, 0, 0⟩
def OsOk (o : Option Str) : Prop := ∀ x, o = some x → PyData.strOk x = true
abbrev actsL : List (Option Str) := [none, some "", some "$$ = $1", some "a"]
theorem act_ok {o : Option Str} (h : o ∈ actsL) : OsOk o := fun x e => by
  subst e
  cases h with | tail _ h => cases h with
  | head => decide +kernel
  | tail _ h => cases h with
    | head => decide +kernel
    | tail _ h => cases h with
      | head => decide +kernel
      | tail _ h => cases h
structure RowOk (sg nm : List Str) (q : RowD) : Prop where
  l : q.l ∈ nm
  r : ∀ x ∈ q.r, x ∈ sg ++ nm
  z : q.r.length ≤ 3
  a : OsOk q.act
structure RowsOk (sg nm : List Str) (rs : List RowD) : Prop where
  ex : ∃ s rest, s ∈ nm ∧ rs = accRow s :: rest ∧ ∀ r ∈ rest, RowOk sg nm r
  z : rs.length ≤ 9
noncomputable def pickA {α : Type} [Inhabited α] (xs : List α) (σ : Int × Int) : α := xs.getD (dig xs.length σ) default
theorem pickA_get {α : Type} [Inhabited α] {xs : List α} {σ : Int × Int} (h : 0 < xs.length) : xs[dig xs.length σ]? = some (pickA xs σ) := by
  unfold pickA
  rw [List.getD_eq_getElem?_getD, List.getElem?_eq_getElem (dig_lt h)]; rfl
theorem pickA_mem {α : Type} [Inhabited α] {xs : List α} {σ : Int × Int} (h : 0 < xs.length) : pickA xs σ ∈ xs := List.mem_of_getElem? (pickA_get h)
section
variable {X : Cx} {A : Around} {H : Hs} {n : Nat}
theorem w_pickA {α : Type} [Inhabited α] (f : α → D) {ds : List D} (xs : List α) (hA : Rm A (n + 2)) (e : ds = xs.map f) (hm : 0 < xs.length) (hb : xs.length ≤ 64) {p : Addr} {σ : Int × Int} : Fn X A (.ref 242) [.ptr p, .lst ds] ((p, penP σ) :: H) (f (pickA xs σ)) ((p, penP (nxt xs.length σ)) :: H) := by
  subst e
  have := w_pick (X := X) (H := H) hA (p := p) (ds := xs.map f) (x := f (pickA xs σ)) (σ := σ) (by rw [List.length_map]; exact hm) (by rw [List.length_map]; exact hb) (by rw [List.length_map, List.getElem?_map, pickA_get hm]; rfl)
  rwa [List.length_map] at this
theorem rows_end {L l p : Addr} {ns : P} {sg nm : List Str} {rest : List RowD} {s : Str} {c1 c2 c3 : Addr × P} {τ : Int × Int} {T : Hs} {j : Nat} {d : D} {row : RowD} (e : d = dRow row) (hl : (accRow s :: rest).length = j + 1) (hs : s ∈ nm) (hr : ∀ r ∈ rest, RowOk sg nm r) (h1 : row.l ∈ nm) (h2 : ∀ x ∈ row.r, x ∈ sg ++ nm) (h3 : row.r.length ≤ 3) (h4 : OsOk row.act) :
    ∃ H'', (L, ns) :: (l, P.lst ((accRow s :: rest).map dRow ++ [d])) :: c1 :: c2 :: c3 :: (p, penP τ) :: (H ++ T) = H'' ++ T ∧ ∃ rs υ, H'' = (L, ns) :: (l, P.lst (rs.map dRow)) :: c1 :: c2 :: c3 :: (p, penP υ) :: H ∧ rs.length = j + 1 + 1 ∧ ∃ s rest, s ∈ nm ∧ rs = accRow s :: rest ∧ ∀ r ∈ rest, RowOk sg nm r := by
  subst e
  refine ⟨(L, ns) :: (l, P.lst (((accRow s :: rest) ++ [row]).map dRow)) :: c1 :: c2 :: c3 :: (p, penP τ) :: H, by rw [List.map_append]; rfl, _, τ, rfl, by rw [List.length_append, hl]; rfl, s, rest ++ [row], hs, rfl, fun r hr2 => ?_⟩
  rcases List.mem_append.mp hr2 with h | h
  · exact hr r h
  · cases List.mem_singleton.mp h; exact ⟨h1, h2, h3, h4⟩
theorem w_rows (hA : Rm A (n + 3)) {p : Addr} {sg nm : List Str} {σ : Int × Int} (hs : sg.length ≤ 16) (hn : nm.length ≤ 16) (h0 : 0 < nm.length) : FnQ X A (.ref 247) [.ptr p, .lst (sg.map .str), .lst (nm.map .str)] ((p, penP σ) :: H) fun d K => ∃ rs τ, d = .lst (rs.map dRow) ∧ K = (p, penP τ) :: H ∧ RowsOk sg nm rs := by
  refine fn_inCQ (fd := fdLR) (c := 246) (ks := ["pen", "signs", "names"]) (cn := ["names", "signs", "pen"]) (cs := fun n => [("names", n + 2), ("signs", n + 1), ("pen", n)]) (ds := [.ptr p, .lst (sg.map .str), .lst (nm.map .str)]) rfl rfl rfl rfl hA.lt rfl (fun _ _ _ => rfl) rfl rfl (fun _ => rfl) (fun _ => rfl) fun L => ?_
  generalize hE : callEnvC fdLR L 247 = env
  have hB : Rm (A.deeper (callEnvC fdLR L 247)) (n + 2) := hA.deeper
  rw [hE] at hB
  show Ex X _ _ ((L, P.ns []) :: (L + 3, P.cell (some (.lst (nm.map .str)))) :: (L + 2, P.cell (some (.lst (sg.map .str)))) :: (L + 1, P.cell (some (.ptr p))) :: (p, penP σ) :: H) _
  subst hE
  have h8 : 0 < (sg ++ nm).length := by rw [List.length_append]; exact Nat.lt_of_lt_of_le h0 (Nat.le_add_left _ _)
  have h9 : (sg ++ nm).length ≤ 64 := by rw [List.length_append]; omega
  apply ex_newL
  rfl
  rfl
  apply new_list
  rfl
  apply as_cons
  rfl
  rfl
  apply ev_tup
  rfl
  apply as_cons
  rfl
  rfl
  exact ev_str rfl
  apply as_cons
  rfl
  rfl
  apply ev_tup
  rfl
  apply as_cons
  rfl
  rfl
  apply ev_call
  rfl
  exact ev_global rfl rfl rfl
  first | exact .inl ⟨_, rfl⟩ | exact .inr (.inl ⟨_, rfl⟩) | exact .inr (.inr (by kernel_rfl))
  apply as_cons
  rfl
  rfl
  apply ev_cell
  rfl
  rfl
  rfl
  first | exact .head _ | exact .tail _ (.head _) | exact .tail _ (.tail _ (.head _)) | exact .tail _ (.tail _ (.tail _ (.head _))) | exact .tail _ (.tail _ (.tail _ (.tail _ (.head _)))) | exact .tail _ (.tail _ (.tail _ (.tail _ (.tail _ (.head _))))) | exact .tail _ (.tail _ (.tail _ (.tail _ (.tail _ (.tail _ (.head _))))))
  apply as_cons
  rfl
  rfl
  apply ev_cell
  rfl
  rfl
  rfl
  first | exact .head _ | exact .tail _ (.head _) | exact .tail _ (.tail _ (.head _)) | exact .tail _ (.tail _ (.tail _ (.head _))) | exact .tail _ (.tail _ (.tail _ (.tail _ (.head _)))) | exact .tail _ (.tail _ (.tail _ (.tail _ (.tail _ (.head _))))) | exact .tail _ (.tail _ (.tail _ (.tail _ (.tail _ (.tail _ (.head _))))))
  exact as_nil
  apply CallD.at (a := p)
  repeat (first | apply At.head | apply At.tail)
  exact fun H => w_pickA D.str nm hB rfl h0 (Nat.le_trans hn (by decide))
  apply as_cons
  rfl
  rfl
  exact ev_str rfl
  exact as_nil
  rfl
  apply as_cons
  rfl
  rfl
  exact ev_int rfl
  apply as_cons
  rfl
  rfl
  exact ev_none rfl
  apply as_cons
  rfl
  rfl
  exact ev_int rfl
  apply as_cons
  rfl
  rfl
  exact ev_int rfl
  exact as_nil
  rfl
  exact as_nil
  rfl
  rfl
  intro l
  refine ex_for (H₁ := (L, P.ns [("rows", .ptr l)]) :: (l, P.lst ([accRow (pickA nm σ)].map dRow)) :: (L + 3, P.cell (some (.lst (nm.map .str)))) :: (L + 2, P.cell (some (.lst (sg.map .str)))) :: (L + 1, P.cell (some (.ptr p))) :: (p, penP (nxt 8 (nxt nm.length σ))) :: H) (items := upFrom 0 (1 + dig 8 (nxt nm.length σ))) rfl (srcE (d := .rng 0 (1 + dig 8 (nxt nm.length σ) : Nat)) ?_ (src_range0 hB.hh (fun _ _ => rfl) ?_)) (fun j K => ∃ rs τ, K = (L, P.ns [("rows", .ptr l)]) :: (l, P.lst (rs.map dRow)) :: (L + 3, P.cell (some (.lst (nm.map .str)))) :: (L + 2, P.cell (some (.lst (sg.map .str)))) :: (L + 1, P.cell (some (.ptr p))) :: (p, penP τ) :: H ∧ rs.length = j + 1 ∧ ∃ s rest, s ∈ nm ∧ rs = accRow s :: rest ∧ ∀ r ∈ rest, RowOk sg nm r) ⟨_, _, rfl, rfl, _, [], pickA_mem h0, rfl, fun r hr => nomatch hr⟩ (fun _ => rfl) (fun T j K d hJ hd => ?_) fun K hJ => ?_
  · apply call1
    rfl
    rfl
    rfl
    exact ev_builtin rfl rfl rfl boot_range
    first | exact .inl ⟨_, rfl⟩ | exact .inr (.inl ⟨_, rfl⟩) | exact .inr (.inr (by kernel_rfl))
    apply ev_bin
    rfl
    exact ev_int rfl
    apply ev_call
    rfl
    exact ev_global rfl rfl rfl
    first | exact .inl ⟨_, rfl⟩ | exact .inr (.inl ⟨_, rfl⟩) | exact .inr (.inr (by kernel_rfl))
    apply as_cons
    rfl
    rfl
    apply ev_cell
    rfl
    rfl
    rfl
    first | exact .head _ | exact .tail _ (.head _) | exact .tail _ (.tail _ (.head _)) | exact .tail _ (.tail _ (.tail _ (.head _))) | exact .tail _ (.tail _ (.tail _ (.tail _ (.head _)))) | exact .tail _ (.tail _ (.tail _ (.tail _ (.tail _ (.head _))))) | exact .tail _ (.tail _ (.tail _ (.tail _ (.tail _ (.tail _ (.head _))))))
    apply as_cons
    rfl
    rfl
    exact ev_int rfl
    exact as_nil
    apply CallD.at (a := p)
    repeat (first | apply At.head | apply At.tail)
    exact fun H => w_draw (m := 8) hB.less (by decide) (by decide)
    exact op_add
    exact cd_rangeN (n := 1 + dig 8 _) (by rw [Int.natCast_add]; rfl)
  · have := dig_lt (m := 8) (σ := nxt nm.length σ) (by decide)
    omega
  · obtain ⟨rs, τ, rfl, hl, s, rest, hs0, rfl, hr⟩ := hJ
    obtain ⟨hj, rfl⟩ := upFrom_get hd
    have hj9 : j < 9 := by have := dig_lt (m := 8) (σ := nxt nm.length σ) (by decide); omega
    refine ⟨_, Bnd.asg rfl (bnd_local rfl (.head _) Up.head), ?_⟩
    refine ex_assignQ (Q := fun d K => ∃ (w : List Str) (υ : Int × Int), w.length ≤ 3 ∧ (∀ x ∈ w, x ∈ sg ++ nm) ∧ d = .tup (w.map .str) ∧ K = (L, P.ns [("turn", .int (0 + (j : Int))), ("rows", .ptr l)]) :: (l, P.lst ((accRow s :: rest).map dRow)) :: (L + 3, P.cell (some (.lst (nm.map .str)))) :: (L + 2, P.cell (some (.lst (sg.map .str)))) :: (L + 1, P.cell (some (.ptr p))) :: (p, penP υ) :: (H ++ T)) rfl (evq_call1 (Q₁ := fun d K => ∃ (w : List Str) (υ : Int × Int), w.length ≤ 3 ∧ (∀ x ∈ w, x ∈ sg ++ nm) ∧ d = .lst (w.map .str) ∧ K = (L, P.ns [("turn", .int (0 + (j : Int))), ("rows", .ptr l)]) :: (l, P.lst ((accRow s :: rest).map dRow)) :: (L + 3, P.cell (some (.lst (nm.map .str)))) :: (L + 2, P.cell (some (.lst (sg.map .str)))) :: (L + 1, P.cell (some (.ptr p))) :: (p, penP υ) :: (H ++ T)) rfl rfl rfl (ev_builtin rfl rfl rfl boot_tuple) (.inr (.inl ⟨_, rfl⟩)) ?_ ?_) rfl ?_
    · refine evq_comp (H₁ := (L, P.ns [("turn", .int (0 + (j : Int))), ("rows", .ptr l)]) :: (l, P.lst ((accRow s :: rest).map dRow)) :: (L + 3, P.cell (some (.lst (nm.map .str)))) :: (L + 2, P.cell (some (.lst (sg.map .str)))) :: (L + 1, P.cell (some (.ptr p))) :: (p, penP (nxt 4 τ)) :: (H ++ T)) (Z := []) (ifs := []) (items := upFrom 0 (dig 4 τ)) (fun i ds K => ∃ (w : List Str) (υ : Int × Int), w.length = i ∧ ds = w.map .str ∧ (∀ x ∈ w, x ∈ sg ++ nm) ∧ K = (L, P.ns [("turn", .int (0 + (j : Int))), ("rows", .ptr l)]) :: (l, P.lst ((accRow s :: rest).map dRow)) :: (L + 3, P.cell (some (.lst (nm.map .str)))) :: (L + 2, P.cell (some (.lst (sg.map .str)))) :: (L + 1, P.cell (some (.ptr p))) :: (p, penP υ) :: (H ++ T)) rfl ⟨rfl, rfl, rfl, rfl, fun _ => rfl⟩ (srcE (d := .rng 0 (dig 4 τ)) ?_ (src_range0 hB.hh (fun _ _ => rfl) ?_)) ?_ ⟨[], _, rfl, rfl, (fun x hx => nomatch hx), rfl⟩ (fun C T' j' ds K d hJ hd => ?_) (fun ds K hJ => ?_)
      · apply call1
        rfl
        rfl
        rfl
        exact ev_builtin rfl rfl rfl boot_range
        first | exact .inl ⟨_, rfl⟩ | exact .inr (.inl ⟨_, rfl⟩) | exact .inr (.inr (by kernel_rfl))
        apply ev_call
        rfl
        exact ev_global rfl rfl rfl
        first | exact .inl ⟨_, rfl⟩ | exact .inr (.inl ⟨_, rfl⟩) | exact .inr (.inr (by kernel_rfl))
        apply as_cons
        rfl
        rfl
        apply ev_cell
        rfl
        rfl
        rfl
        first | exact .head _ | exact .tail _ (.head _) | exact .tail _ (.tail _ (.head _)) | exact .tail _ (.tail _ (.tail _ (.head _))) | exact .tail _ (.tail _ (.tail _ (.tail _ (.head _)))) | exact .tail _ (.tail _ (.tail _ (.tail _ (.tail _ (.head _))))) | exact .tail _ (.tail _ (.tail _ (.tail _ (.tail _ (.tail _ (.head _))))))
        apply as_cons
        rfl
        rfl
        exact ev_int rfl
        exact as_nil
        apply CallD.at (a := p)
        repeat (first | apply At.head | apply At.tail)
        exact fun H => w_draw (m := 4) hB.less (by decide) (by decide)
        exact cd_range
      · have := dig_lt (m := 4) (σ := τ) (by decide)
        omega
      · have := dig_lt (m := 4) (σ := τ) (by decide)
        rw [upFrom_len]
        exact sz64 (by omega)
      · obtain ⟨w, υ, hw, rfl, hx, rfl⟩ := hJ
        refine (turn_all (m := [("spot", d)]) (m' := [("spot", d)]) (K := (L, P.ns [("turn", .int (0 + (j : Int))), ("rows", .ptr l)]) :: (l, P.lst ((accRow s :: rest).map dRow)) :: (L + 3, P.cell (some (.lst (nm.map .str)))) :: (L + 2, P.cell (some (.lst (sg.map .str)))) :: (L + 1, P.cell (some (.ptr p))) :: (p, penP (nxt (sg ++ nm).length υ)) :: (H ++ T)) (e := .str (pickA (sg ++ nm) υ)) (Bnd.asg rfl (bnd_local rfl (.head _) Up.head)) ?_).weak ?_
        · apply ev_call
          rfl
          exact ev_global rfl rfl rfl
          first | exact .inl ⟨_, rfl⟩ | exact .inr (.inl ⟨_, rfl⟩) | exact .inr (.inr (by kernel_rfl))
          apply as_cons
          rfl
          rfl
          apply ev_cell
          rfl
          rfl
          rfl
          first | exact .head _ | exact .tail _ (.head _) | exact .tail _ (.tail _ (.head _)) | exact .tail _ (.tail _ (.tail _ (.head _))) | exact .tail _ (.tail _ (.tail _ (.tail _ (.head _)))) | exact .tail _ (.tail _ (.tail _ (.tail _ (.tail _ (.head _))))) | exact .tail _ (.tail _ (.tail _ (.tail _ (.tail _ (.tail _ (.head _))))))
          apply as_cons
          rfl
          rfl
          apply New.ev
          apply binop_new
          rfl
          apply ev_cell
          rfl
          rfl
          rfl
          first | exact .head _ | exact .tail _ (.head _) | exact .tail _ (.tail _ (.head _)) | exact .tail _ (.tail _ (.tail _ (.head _))) | exact .tail _ (.tail _ (.tail _ (.tail _ (.head _)))) | exact .tail _ (.tail _ (.tail _ (.tail _ (.tail _ (.head _))))) | exact .tail _ (.tail _ (.tail _ (.tail _ (.tail _ (.tail _ (.head _))))))
          apply ev_cell
          rfl
          rfl
          rfl
          first | exact .head _ | exact .tail _ (.head _) | exact .tail _ (.tail _ (.head _)) | exact .tail _ (.tail _ (.tail _ (.head _))) | exact .tail _ (.tail _ (.tail _ (.tail _ (.head _)))) | exact .tail _ (.tail _ (.tail _ (.tail _ (.tail _ (.head _))))) | exact .tail _ (.tail _ (.tail _ (.tail _ (.tail _ (.tail _ (.head _))))))
          exact add_lists sq sq (by rw [List.length_map, List.length_map]; exact sz64 (by omega))
          exact as_nil
          apply CallD.at (a := p)
          repeat (first | apply At.head | apply At.tail)
          exact fun H => w_pickA D.str (sg ++ nm) hB (by rw [List.map_append]) h8 h9
        · rintro o K ⟨rfl, rfl⟩
          refine ⟨w ++ [pickA (sg ++ nm) υ], _, by rw [List.length_append, hw]; rfl, by rw [List.map_append]; rfl, fun x hx2 => (List.mem_append.mp hx2).elim (hx x) fun e => List.mem_singleton.mp e ▸ pickA_mem h8, rfl⟩
      · obtain ⟨w, υ, hw, rfl, hx, rfl⟩ := hJ
        rw [upFrom_len] at hw
        have := dig_lt (m := 4) (σ := τ) (by decide)
        exact ⟨w, υ, by omega, hx, rfl, rfl⟩
    · rintro d K ⟨w, υ, hw, hx, rfl, rfl⟩
      exact ((cd_tuple sq (by rw [List.length_map]; exact sz64 (by omega))).q ⟨w, υ, hw, hx, rfl, rfl⟩)
    · rintro d K ⟨w, υ, hw, hx, rfl, rfl⟩
      refine ⟨_, bnd_local rfl (.head _) Up.head, ?_⟩
      apply ex_assignSwap hB.hh rfl rfl rfl
      apply ev_tup
      rfl
      apply as_cons
      rfl
      rfl
      apply ev_call
      rfl
      exact ev_global rfl rfl rfl
      first | exact .inl ⟨_, rfl⟩ | exact .inr (.inl ⟨_, rfl⟩) | exact .inr (.inr (by kernel_rfl))
      apply as_cons
      rfl
      rfl
      apply ev_cell
      rfl
      rfl
      rfl
      first | exact .head _ | exact .tail _ (.head _) | exact .tail _ (.tail _ (.head _)) | exact .tail _ (.tail _ (.tail _ (.head _))) | exact .tail _ (.tail _ (.tail _ (.tail _ (.head _)))) | exact .tail _ (.tail _ (.tail _ (.tail _ (.tail _ (.head _))))) | exact .tail _ (.tail _ (.tail _ (.tail _ (.tail _ (.tail _ (.head _))))))
      apply as_cons
      rfl
      rfl
      apply New.ev
      apply new_list
      rfl
      apply as_cons
      rfl
      rfl
      apply ev_neg
      rfl
      exact ev_int rfl
      apply as_cons
      rfl
      rfl
      exact ev_int rfl
      apply as_cons
      rfl
      rfl
      exact ev_int rfl
      apply as_cons
      rfl
      rfl
      apply ev_bin
      rfl
      apply call1
      rfl
      rfl
      rfl
      exact ev_builtin rfl rfl rfl boot_len
      first | exact .inl ⟨_, rfl⟩ | exact .inr (.inl ⟨_, rfl⟩) | exact .inr (.inr (by kernel_rfl))
      apply ev_cell
      rfl
      rfl
      rfl
      first | exact .head _ | exact .tail _ (.head _) | exact .tail _ (.tail _ (.head _)) | exact .tail _ (.tail _ (.tail _ (.head _))) | exact .tail _ (.tail _ (.tail _ (.tail _ (.head _)))) | exact .tail _ (.tail _ (.tail _ (.tail _ (.tail _ (.head _))))) | exact .tail _ (.tail _ (.tail _ (.tail _ (.tail _ (.tail _ (.head _))))))
      exact cd_len sq (by rw [List.length_map]; exact sz64 (by omega))
      exact ev_int rfl
      exact op_sub
      exact as_nil
      rfl
      exact as_nil
      apply CallD.at (a := p)
      repeat (first | apply At.head | apply At.tail)
      exact fun H => w_pickA D.int [-1, 0, 3, (sg.map D.str).length - 1] hB rfl (Nat.succ_pos _) (Nat.le_of_ble_eq_true rfl)
      apply as_cons
      rfl
      rfl
      apply ev_call
      rfl
      exact ev_global rfl rfl rfl
      first | exact .inl ⟨_, rfl⟩ | exact .inr (.inl ⟨_, rfl⟩) | exact .inr (.inr (by kernel_rfl))
      apply as_cons
      rfl
      rfl
      apply ev_cell
      rfl
      rfl
      rfl
      first | exact .head _ | exact .tail _ (.head _) | exact .tail _ (.tail _ (.head _)) | exact .tail _ (.tail _ (.tail _ (.head _))) | exact .tail _ (.tail _ (.tail _ (.tail _ (.head _)))) | exact .tail _ (.tail _ (.tail _ (.tail _ (.tail _ (.head _))))) | exact .tail _ (.tail _ (.tail _ (.tail _ (.tail _ (.tail _ (.head _))))))
      apply as_cons
      rfl
      rfl
      apply New.ev
      apply new_list
      rfl
      apply as_cons
      rfl
      rfl
      exact ev_none rfl
      apply as_cons
      rfl
      rfl
      exact ev_str rfl
      apply as_cons
      rfl
      rfl
      exact ev_str rfl
      apply as_cons
      rfl
      rfl
      exact ev_str rfl
      exact as_nil
      rfl
      exact as_nil
      apply CallD.at (a := p)
      repeat (first | apply At.head | apply At.tail)
      exact fun H => w_pickA dOS [none, some "", some "$$ = $1", some "a"] hB rfl (by decide) (by decide)
      exact as_nil
      rfl
      exact bnd_local rfl (.head _) Up.head
      exact bnd_local rfl (.head _) Up.head
      rfl
      apply ex_expr
      rfl
      apply ev_meth
      rfl
      exact ev_local rfl rfl rfl
      exact m_append (sqP (.tail _ (.head _)))
      first | exact .inl ⟨_, rfl⟩ | exact .inr (.inl ⟨_, rfl⟩) | exact .inr (.inr (by kernel_rfl))
      apply as_cons
      rfl
      rfl
      apply ev_tup
      rfl
      apply as_cons
      rfl
      rfl
      apply ev_call
      rfl
      exact ev_global rfl rfl rfl
      first | exact .inl ⟨_, rfl⟩ | exact .inr (.inl ⟨_, rfl⟩) | exact .inr (.inr (by kernel_rfl))
      apply as_cons
      rfl
      rfl
      apply ev_cell
      rfl
      rfl
      rfl
      first | exact .head _ | exact .tail _ (.head _) | exact .tail _ (.tail _ (.head _)) | exact .tail _ (.tail _ (.tail _ (.head _))) | exact .tail _ (.tail _ (.tail _ (.tail _ (.head _)))) | exact .tail _ (.tail _ (.tail _ (.tail _ (.tail _ (.head _))))) | exact .tail _ (.tail _ (.tail _ (.tail _ (.tail _ (.tail _ (.head _))))))
      apply as_cons
      rfl
      rfl
      apply ev_cell
      rfl
      rfl
      rfl
      first | exact .head _ | exact .tail _ (.head _) | exact .tail _ (.tail _ (.head _)) | exact .tail _ (.tail _ (.tail _ (.head _))) | exact .tail _ (.tail _ (.tail _ (.tail _ (.head _)))) | exact .tail _ (.tail _ (.tail _ (.tail _ (.tail _ (.head _))))) | exact .tail _ (.tail _ (.tail _ (.tail _ (.tail _ (.tail _ (.head _))))))
      exact as_nil
      apply CallD.at (a := p)
      repeat (first | apply At.head | apply At.tail)
      exact fun H => w_pickA D.str nm hB rfl h0 (Nat.le_trans hn (by decide))
      apply as_cons
      rfl
      rfl
      exact ev_local rfl rfl rfl
      apply as_cons
      rfl
      rfl
      exact ev_local rfl rfl rfl
      apply as_cons
      rfl
      rfl
      exact ev_local rfl rfl rfl
      apply as_cons
      rfl
      rfl
      apply ev_call
      rfl
      exact ev_global rfl rfl rfl
      first | exact .inl ⟨_, rfl⟩ | exact .inr (.inl ⟨_, rfl⟩) | exact .inr (.inr (by kernel_rfl))
      apply as_cons
      rfl
      rfl
      apply ev_cell
      rfl
      rfl
      rfl
      first | exact .head _ | exact .tail _ (.head _) | exact .tail _ (.tail _ (.head _)) | exact .tail _ (.tail _ (.tail _ (.head _))) | exact .tail _ (.tail _ (.tail _ (.tail _ (.head _)))) | exact .tail _ (.tail _ (.tail _ (.tail _ (.tail _ (.head _))))) | exact .tail _ (.tail _ (.tail _ (.tail _ (.tail _ (.tail _ (.head _))))))
      apply as_cons
      rfl
      rfl
      exact ev_int rfl
      exact as_nil
      apply CallD.at (a := p)
      repeat (first | apply At.head | apply At.tail)
      exact fun H => w_draw (m := 50) hB.less (by decide) (by decide)
      apply as_cons
      rfl
      rfl
      apply ev_call
      rfl
      exact ev_global rfl rfl rfl
      first | exact .inl ⟨_, rfl⟩ | exact .inr (.inl ⟨_, rfl⟩) | exact .inr (.inr (by kernel_rfl))
      apply as_cons
      rfl
      rfl
      apply ev_cell
      rfl
      rfl
      rfl
      first | exact .head _ | exact .tail _ (.head _) | exact .tail _ (.tail _ (.head _)) | exact .tail _ (.tail _ (.tail _ (.head _))) | exact .tail _ (.tail _ (.tail _ (.tail _ (.head _)))) | exact .tail _ (.tail _ (.tail _ (.tail _ (.tail _ (.head _))))) | exact .tail _ (.tail _ (.tail _ (.tail _ (.tail _ (.tail _ (.head _))))))
      apply as_cons
      rfl
      rfl
      exact ev_int rfl
      exact as_nil
      apply CallD.at (a := p)
      repeat (first | apply At.head | apply At.tail)
      exact fun H => w_draw (m := 3) hB.less (by decide) (by decide)
      exact as_nil
      rfl
      exact as_nil
      exact cd_append (ds := (accRow s :: rest).map dRow) (.tail _ (.head _)) (Up.tail Up.head) (by rw [List.length_map, hl]; exact sz64 (by omega))
      rfl
      rfl
      refine Ex.ns (m' := [("rows", .ptr l)]) ?_ (nsk_cons rfl nsk_nil)
      refine ex_end rfl ⟨.inl rfl, ?_⟩
      exact rows_end (row := ⟨_, _, _, _, _, _⟩) rfl hl hs0 hr (pickA_mem h0) hx hw (act_ok (pickA_mem (xs := actsL) (by decide)))
  · obtain ⟨rs, τ, rfl, hl, s, rest, hs0, rfl, hr⟩ := hJ
    rw [upFrom_len] at hl
    have hd8 := dig_lt (m := 8) (σ := nxt nm.length σ) (by decide)
    refine ex_retQ (Q := fun d K => d = .lst ((accRow s :: rest).map dRow) ∧ K = (L, P.ns [("rows", .ptr l)]) :: (L + 3, P.cell (some (.lst (nm.map .str)))) :: (L + 2, P.cell (some (.lst (sg.map .str)))) :: (L + 1, P.cell (some (.ptr p))) :: (p, penP τ) :: H) rfl ((Ev.frz (ev_local rfl rfl rfl) (.tail .head)).q ⟨rfl, rfl⟩) ?_
    rintro d K ⟨rfl, rfl⟩
    exact ⟨_, _, .inl rfl, .skip (.skip (.skip (.skip .rfl))), _, τ, rfl, rfl, ⟨s, rest, hs0, rfl, hr⟩, by omega⟩
end
end Mine
namespace Mine
noncomputable abbrev fdGI : FuncData := fdOf (inCls (topAt 3) 0) "Grammar." .none pmG 54
noncomputable def own (rs : List RuleD) : List Nat := rs.flatMap fun r : RuleD => List.replicate (r.right.length + 1) r.num
noncomputable def byl (rs : List RuleD) (x : Nat) : List Nat := (rs.filter fun r : RuleD => r.left == x).map fun r : RuleD => r.num
theorem own_snoc {rs : List RuleD} {r : RuleD} : own (rs ++ [r]) = own rs ++ List.replicate (r.right.length + 1) r.num := by
  unfold own; rw [List.flatMap_append]; simp
theorem offs_snoc {rs : List RuleD} {r : RuleD} : ∀ {n : Nat}, offs n (rs ++ [r]) = offs n rs ++ [n + (own rs).length] := by
  induction rs with
  | nil => intro n; simp [offs, own]
  | cons q rs ih =>
    intro n
    show n :: offs _ (rs ++ [r]) = n :: (offs _ rs ++ [n + (own (q :: rs)).length])
    rw [ih]
    congr 3
    unfold own
    rw [List.flatMap_cons, List.length_append, List.length_replicate]; omega
theorem byl_set {rs : List RuleD} {r : RuleD} {n : Nat} : (List.range n).map (fun x => (byl (rs ++ [r]) x).map dN) = ((List.range n).map fun x => (byl rs x).map dN).set r.left ((byl rs r.left).map dN ++ [dN r.num]) := by
  refine List.ext_getElem? fun i => ?_
  rw [List.getElem?_set, List.getElem?_map, List.getElem?_map, List.length_map, List.length_range]
  by_cases hi : i < n
  · rw [List.getElem?_range hi, Option.map_some, Option.map_some]
    unfold byl
    rw [List.filter_append]
    by_cases h : r.left = i
    · subst h
      rw [if_pos rfl, if_pos hi]
      simp
    · rw [if_neg h]
      simp [h]
  · rw [List.getElem?_eq_none (by rw [List.length_range]; omega)]
    by_cases h : r.left = i
    · subst h; rw [if_pos rfl, if_neg hi]; rfl
    · rw [if_neg h]; rfl
section
variable {X : Cx} {A : Around} {H : Hs} {n : Nat} {g : Gram}
theorem sz65 {n : Nat} (h : n ≤ 64) : n + 1 ≤ sizeLine := Nat.le_trans (Nat.succ_le_succ h) (by decide)
theorem byl_le (hg : g.Ok) (j x : Nat) : (byl (g.rules.take j) x).length ≤ 64 := by
  unfold byl; rw [List.length_map]
  exact Nat.le_trans (List.length_filter_le _ _) (Nat.le_trans (by rw [List.length_take]; exact Nat.min_le_right _ _) hg.rz)
theorem own_le {rs : List RuleD} (h : ∀ r ∈ rs, r.right.length ≤ 64) : (own rs).length ≤ 65 * rs.length := by
  induction rs with
  | nil => exact Nat.le_refl _
  | cons r rs ih =>
    unfold own
    rw [List.flatMap_cons, List.length_append, List.length_replicate, List.length_cons]
    have := ih fun q hq => h q (List.mem_cons_of_mem _ hq)
    have := h r List.mem_cons_self
    unfold own at *
    omega
theorem offs_len {rs : List RuleD} : ∀ {n : Nat}, (offs n rs).length = rs.length := by
  induction rs with
  | nil => intro n; rfl
  | cons r rs ih => intro n; exact congrArg (· + 1) ih
theorem own_sz (hg : g.Ok) : (own g.rules).length ≤ sizeLine := by
  have h1 := own_le (rs := g.rules) hg.lz
  have h3 := hg.rz
  have h4 : (4260 : Nat) ≤ sizeLine := by decide
  omega
theorem gi_sizes (hg : g.Ok) {j : Nat} {r : RuleD} (hr : r ∈ g.rules) (hj : j < g.rules.length) : (own (g.rules.take j)).length ≤ sizeLine ∧ (offs 0 (g.rules.take j)).length ≤ sizeLine ∧ (own (g.rules.take j)).length + (r.right.length + 1) ≤ sizeLine := by
  have h1 := own_le (rs := g.rules.take j) fun q hq => hg.lz q (List.mem_of_mem_take hq)
  have h2 := hg.lz r hr
  have h3 := hg.rz
  have h4 : (4260 : Nat) ≤ sizeLine := by decide
  rw [List.length_take] at h1
  rw [offs_len, List.length_take]
  omega
/-- the state of the loop in Grammar.__init__ -/
noncomputable def giH (X : Cx) (g : Gram) (L dx o f : Addr) (as : List Addr) (H : Hs) (rs : List RuleD) : Hs :=
  (L, P.ns [("self", .self 121 dx), ("names", .lst (g.names.map .str)), ("terminal_count", dN g.tc), ("rules", .lst (g.rules.map dRule)), ("levels", .dct X.w (g.lv.map lvK) (g.lv.map lvD)), ("expect", dOI g.expect), ("start", dN g.start)]) :: (dx, .attrs [("owners", .ptr o), ("offsets", .ptr f), ("by_left", .lst (as.map D.ptr)), ("start", dN g.start), ("expect", dOI g.expect), ("levels", .dct X.w (g.lv.map lvK) (g.lv.map lvD)), ("rules", .lst (g.rules.map dRule)), ("terminal_count", dN g.tc), ("names", .lst (g.names.map .str))]) :: (o, .lst ((own rs).map dN)) :: (f, .lst ((offs 0 rs).map dN)) :: (rowsH as ((List.range g.names.length).map fun x => (byl rs x).map dN) ++ H)
theorem gi_end {L dx o f : Addr} {as : List Addr} {F : Fz} {s : Shared} {ns : P} (hl : as.length = g.names.length)
    (S : St X ((L, ns) :: (dx, .attrs [("item_count", dN (own g.rules).length), ("owners", .ptr o), ("offsets", .ptr f), ("by_left", .lst (as.map D.ptr)), ("start", dN g.start), ("expect", dOI g.expect), ("levels", .dct X.w (g.lv.map lvK) (g.lv.map lvD)), ("rules", .lst (g.rules.map dRule)), ("terminal_count", dN g.tc), ("names", .lst (g.names.map .str))]) :: (o, .lst ((own g.rules).map dN)) :: (f, .lst ((offs 0 g.rules).map dN)) :: (rowsH as ((List.range g.names.length).map fun x => (byl g.rules x).map dN) ++ H)) F s) : Got X ((dx, .attrs (gFs X g)) :: H) F s := by
  have S₁ := (S.wk (.skip .rfl)).perm ((List.Perm.swap ..).trans ((List.Perm.swap ..).cons _))
  obtain ⟨F₁, l₁, S₂, r₁⟩ := S₁.lst
  obtain ⟨F₂, l₂, S₃, r₂⟩ := S₂.lst
  have S₄ := S₃.perm (List.perm_middle (l₁ := rowsH as _)).symm
  obtain ⟨F₃, l₃, S₅, r₃⟩ := St.rows (by rw [hl, List.length_map, List.length_range]) S₄
  have e : (List.range g.names.length).map (fun x => D.lst ((g.byLeft x).map dN)) = ((List.range g.names.length).map fun x => (byl g.rules x).map dN).map D.lst := by rw [List.map_map]; rfl
  refine ⟨F₃, (l₁.trans l₂).trans l₃, S₅.put fun ob h => AttrsIs.conv h (.cons (fun v h => h) (.cons (fun v h => ?_) (.cons (fun v h => ?_) (.cons (fun v h => e ▸ lst_rows h .rfl r₃) (ConvL.mono .rfl)))))⟩
  · rw [show v = .ref o from h]; exact (D.lst _).mono (l₂.trans l₃) r₁
  · rw [show v = .ref f from h]; exact (D.lst _).mono l₃ r₂
theorem giH_step {L dx o f : Addr} {as : List Addr} {T : Hs} {rs : List RuleD} {r : RuleD} : (L, P.ns [("self", .self 121 dx), ("names", .lst (g.names.map .str)), ("terminal_count", dN g.tc), ("rules", .lst (g.rules.map dRule)), ("levels", .dct X.w (g.lv.map lvK) (g.lv.map lvD)), ("expect", dOI g.expect), ("start", dN g.start)]) :: (dx, P.attrs [("owners", .ptr o), ("offsets", .ptr f), ("by_left", .lst (as.map D.ptr)), ("start", dN g.start), ("expect", dOI g.expect), ("levels", .dct X.w (g.lv.map lvK) (g.lv.map lvD)), ("rules", .lst (g.rules.map dRule)), ("terminal_count", dN g.tc), ("names", .lst (g.names.map .str))]) :: (o, P.lst ((own rs).map dN ++ List.replicate (r.right.length + 1) (dN r.num))) :: (f, P.lst ((offs 0 rs).map dN ++ [D.int (((own rs).map dN).length : Nat)])) :: ((rowsH as (((List.range g.names.length).map fun x => (byl rs x).map dN).set r.left ((byl rs r.left).map dN ++ [dN r.num])) ++ H) ++ T) = giH X g L dx o f as H (rs ++ [r]) ++ T := by
  unfold giH
  rw [own_snoc, offs_snoc, byl_set, List.map_append, List.map_append, List.map_replicate, List.length_map, Nat.zero_add]
  rfl
theorem w_gram_init (hA : Rm A (n + 1)) (hg : g.Ok) {dx : Addr} : Fn X A (.ref 55) [.self 121 dx, .lst (g.names.map .str), dN g.tc, .lst (g.rules.map dRule), .dct X.w (g.lv.map lvK) (g.lv.map lvD), dOI g.expect, dN g.start] ((dx, .attrs []) :: H) .none ((dx, .attrs (gFs X g)) :: H) := by
  refine fn_inC (fd := fdGI) (c := 54) (ks := ["self", "names", "terminal_count", "rules", "levels", "expect", "start"]) (cn := []) (cs := fun n => []) (ds := [.self 121 dx, .lst (g.names.map .str), dN g.tc, .lst (g.rules.map dRule), .dct X.w (g.lv.map lvK) (g.lv.map lvD), dOI g.expect, dN g.start]) rfl rfl rfl rfl hA.lt rfl (fun _ _ _ _ _ _ _ => rfl) rfl rfl (fun _ => rfl) (fun _ => rfl) fun L => ?_
  show Ex X _ _ ((L, P.ns [("self", .self 121 dx), ("names", .lst (g.names.map .str)), ("terminal_count", dN g.tc), ("rules", .lst (g.rules.map dRule)), ("levels", .dct X.w (g.lv.map lvK) (g.lv.map lvD)), ("expect", dOI g.expect), ("start", dN g.start)]) :: (dx, P.attrs []) :: H) _
  have hB : Rm (A.deeper (callEnvC fdGI L 55)) n := hA.deeper
  refine ex_setattr rfl (ev_local rfl rfl rfl) clsG rfl (ev_local rfl rfl rfl) (.tail _ (.head _)) (Up.tail Up.head) rfl rfl ?_
  refine ex_setattr rfl (ev_local rfl rfl rfl) clsG rfl (ev_local rfl rfl rfl) (.tail _ (.head _)) (Up.tail Up.head) rfl rfl ?_
  refine ex_setattr rfl (ev_local rfl rfl rfl) clsG rfl (ev_local rfl rfl rfl) (.tail _ (.head _)) (Up.tail Up.head) rfl rfl ?_
  refine ex_setattr rfl (ev_local rfl rfl rfl) clsG rfl (ev_local rfl rfl rfl) (.tail _ (.head _)) (Up.tail Up.head) rfl rfl ?_
  refine ex_setattr rfl (ev_local rfl rfl rfl) clsG rfl (ev_local rfl rfl rfl) (.tail _ (.head _)) (Up.tail Up.head) rfl rfl ?_
  refine ex_setattr rfl (ev_local rfl rfl rfl) clsG rfl (ev_local rfl rfl rfl) (.tail _ (.head _)) (Up.tail Up.head) rfl rfl ?_
  refine ex_setattrQ (C := 121) (dx := dx) (Q := fun d K => ∃ as : List Addr, as.length = g.names.length ∧ d = .lst (as.map D.ptr) ∧ K = (L, P.ns [("self", .self 121 dx), ("names", .lst (g.names.map .str)), ("terminal_count", dN g.tc), ("rules", .lst (g.rules.map dRule)), ("levels", .dct X.w (g.lv.map lvK) (g.lv.map lvD)), ("expect", dOI g.expect), ("start", dN g.start)]) :: (dx, P.attrs [("start", dN g.start), ("expect", dOI g.expect), ("levels", .dct X.w (g.lv.map lvK) (g.lv.map lvD)), ("rules", .lst (g.rules.map dRule)), ("terminal_count", dN g.tc), ("names", .lst (g.names.map .str))]) :: (rowsH as (List.replicate g.names.length []) ++ H)) rfl (EvQ.perm (evq_rows (H₁ := (L, P.ns [("self", .self 121 dx), ("names", .lst (g.names.map .str)), ("terminal_count", dN g.tc), ("rules", .lst (g.rules.map dRule)), ("levels", .dct X.w (g.lv.map lvK) (g.lv.map lvD)), ("expect", dOI g.expect), ("start", dN g.start)]) :: (dx, P.attrs [("start", dN g.start), ("expect", dOI g.expect), ("levels", .dct X.w (g.lv.map lvK) (g.lv.map lvD)), ("rules", .lst (g.rules.map dRule)), ("terminal_count", dN g.tc), ("names", .lst (g.names.map .str))]) :: H) (items := g.names.map .str) rfl ⟨rfl, rfl, rfl, rfl, fun _ => rfl⟩ (srcE (d := .lst (g.names.map .str)) ?_ (src_list hB.hh fun _ _ => rfl)) hg.names_sz (fun C T d K hd => ⟨_, Bnd.asg rfl (bnd_local rfl (.head _) Up.head)⟩) rfl) ?_) clsG rfl rfl ?_
  · exact ev_attrS rfl rfl (ev_local rfl rfl rfl) clsG (.tail _ (.head _)) rfl rfl hand_seq
  · rintro d K ⟨as, hl, rfl, rfl⟩
    rw [List.length_map] at hl ⊢
    refine ⟨_, (List.perm_middle (l₁ := rowsH as _)).trans (((List.perm_middle (l₁ := rowsH as _))).cons _), as, hl, rfl, rfl⟩
  rintro _ _ ⟨as, hl, rfl, rfl⟩
  refine ⟨_, _, ev_local rfl rfl rfl, .tail _ (.head _), Up.tail Up.head, Nat.le_of_ble_eq_true rfl, ?_⟩
  refine ex_setattrN (C := 121) (dx := dx) rfl (new_list rfl as_nil rfl) clsG rfl rfl (fun a => ev_local rfl rfl rfl) rfl fun f => ?_
  refine ex_setattrN (C := 121) (dx := dx) rfl (new_list rfl as_nil rfl) clsG rfl rfl (fun a => ev_local rfl rfl rfl) rfl fun o => ?_
  refine ex_for (H₁ := giH X g L dx o f as H []) (items := g.rules.map dRule) rfl (srcE (d := .lst (g.rules.map dRule)) ?_ (src_list hB.hh fun _ _ => rfl)) (fun j K => K = giH X g L dx o f as H (g.rules.take j)) rfl (fun _ => rfl) (fun T j K d hJ hd => ?_) fun K hJ => ?_
  · unfold giH
    rw [show ((List.range g.names.length).map fun x => (byl [] x).map dN) = List.replicate g.names.length [] from by rw [List.eq_replicate_iff]; exact ⟨by rw [List.length_map, List.length_range], fun b hb => by obtain ⟨x, _, rfl⟩ := List.mem_map.mp hb; rfl⟩]
    exact ev_attrS rfl rfl (ev_local rfl rfl rfl) clsG (.tail _ (.head _)) rfl rfl hand_seq
  · subst hJ
    obtain ⟨r, hr0, rfl⟩ := map_get hd
    have hr := List.mem_of_getElem? hr0
    have hlt := hg.left r hr
    have hj : j < g.rules.length := (List.getElem?_eq_some_iff.mp hr0).1
    obtain ⟨a, ha⟩ : ∃ a, as[r.left]? = some a := ⟨_, List.getElem?_eq_getElem (hl ▸ hlt)⟩
    have hbl : ((List.range g.names.length).map fun x => (byl (g.rules.take j) x).map dN)[r.left]? = some ((byl (g.rules.take j) r.left).map dN) := by rw [List.getElem?_map, List.getElem?_range hlt]; rfl
    obtain ⟨hoz, hfz, hez⟩ := gi_sizes hg hr hj
    refine ⟨_, Bnd.asg rfl (bnd_local rfl (.head _) Up.head), ?_⟩
    apply ex_expr
    rfl
    apply ev_meth
    rfl
    apply ev_item
    rfl
    exact ev_attrS rfl rfl (ev_local rfl rfl rfl) clsG (.tail _ (.head _)) rfl rfl hand_seq
    exact lR rfl rfl rfl rfl
    exact sq
    exact rows_get ha
    exact sz64 (Nat.le_of_lt (Nat.lt_of_lt_of_le hlt hg.nz))
    exact fun _ _ => rfl
    exact m_append (sqP (.tail _ (.tail _ (.tail _ (.tail _ (List.mem_append_left _ (List.mem_append_left _ (rowsH_mem ha hbl))))))))
    first | exact .inl ⟨_, rfl⟩ | exact .inr (.inl ⟨_, rfl⟩) | exact .inr (.inr (by kernel_rfl))
    apply as_cons
    rfl
    rfl
    exact lR rfl rfl rfl rfl
    exact as_nil
    exact cd_append (.tail _ (.tail _ (.tail _ (.tail _ (List.mem_append_left _ (List.mem_append_left _ (rowsH_mem ha hbl))))))) (Up.tail (Up.tail (Up.tail (Up.tail (Up.appL (Up.appL (rowsH_up ha hbl))))))) (by rw [List.length_map]; exact sz64 (byl_le hg j r.left))
    rfl
    rfl
    apply ex_expr
    rfl
    apply ev_meth
    rfl
    exact ev_attrS rfl rfl (ev_local rfl rfl rfl) clsG (.tail _ (.head _)) rfl rfl hand_ptr
    exact m_append (sqP (.tail _ (.tail _ (.tail _ (.head _)))))
    first | exact .inl ⟨_, rfl⟩ | exact .inr (.inl ⟨_, rfl⟩) | exact .inr (.inr (by kernel_rfl))
    apply as_cons
    rfl
    rfl
    apply call1
    rfl
    rfl
    rfl
    exact ev_builtin rfl rfl rfl boot_len
    first | exact .inl ⟨_, rfl⟩ | exact .inr (.inl ⟨_, rfl⟩) | exact .inr (.inr (by kernel_rfl))
    exact ev_attrS rfl rfl (ev_local rfl rfl rfl) clsG (.tail _ (.head _)) rfl rfl hand_ptr
    exact cd_len (sqP (.tail _ (.tail _ (.head _)))) (by rw [List.length_map]; exact hoz)
    exact as_nil
    exact cd_append (.tail _ (.tail _ (.tail _ (.head _)))) (Up.tail (Up.tail (Up.tail Up.head))) (by rw [List.length_map]; exact hfz)
    rfl
    rfl
    apply ex_expr
    rfl
    apply ev_meth
    rfl
    exact ev_attrS rfl rfl (ev_local rfl rfl rfl) clsG (.tail _ (.head _)) rfl rfl hand_ptr
    exact m_extend (sqP (.tail _ (.tail _ (.head _))))
    first | exact .inl ⟨_, rfl⟩ | exact .inr (.inl ⟨_, rfl⟩) | exact .inr (.inr (by kernel_rfl))
    apply as_cons
    rfl
    rfl
    apply New.ev
    apply binop_new
    rfl
    apply New.ev
    apply new_list
    rfl
    apply as_cons
    rfl
    rfl
    exact lR rfl rfl rfl rfl
    exact as_nil
    rfl
    apply fun h => Ev.as (d := .int ((r.right.map dN).length + 1)) h (show D.int _ = D.int ((r.right.length + 1 : Nat) : Int) by rw [List.length_map]; rfl)
    · apply ev_bin
      rfl
      apply call1
      rfl
      rfl
      rfl
      exact ev_builtin rfl rfl rfl boot_len
      first | exact .inl ⟨_, rfl⟩ | exact .inr (.inl ⟨_, rfl⟩) | exact .inr (.inr (by kernel_rfl))
      exact lR rfl rfl rfl rfl
      exact cd_lenT sq (hg.right_sz hr)
      exact ev_int rfl
      exact op_add
    exact mul_one (.head _) sq (sz65 (hg.lz r hr))
    exact as_nil
    exact cd_extend (.tail _ (.tail _ (.head _))) sq (Up.tail (Up.tail Up.head)) (by rw [List.length_map, List.length_replicate]; exact hez)
    rfl
    rfl
    refine Ex.ns (m' := [("self", .self 121 dx), ("names", .lst (g.names.map .str)), ("terminal_count", dN g.tc), ("rules", .lst (g.rules.map dRule)), ("levels", .dct X.w (g.lv.map lvK) (g.lv.map lvD)), ("expect", dOI g.expect), ("start", dN g.start)]) ?_ (nsk_cons rfl (nsk_cons rfl (nsk_cons rfl (nsk_cons rfl (nsk_cons rfl (nsk_cons rfl (nsk_cons rfl nsk_nil)))))))
    refine ex_end rfl ⟨.inl rfl, giH X g L dx o f as H (g.rules.take (j + 1)), ?_, rfl⟩
    rw [List.take_succ_eq_append_getElem hj, show g.rules[j] = r from (List.getElem?_eq_some_iff.mp hr0).2]
    exact giH_step
  · subst hJ
    rw [List.length_map, List.take_length]
    apply ex_setattr (C := 121) (dx := dx)
    rfl
    apply fun h => Ev.as (d := .int ((own g.rules).map dN).length) h (show _ = dN (own g.rules).length by rw [List.length_map]; rfl)
    apply call1
    rfl
    rfl
    rfl
    exact ev_builtin rfl rfl rfl boot_len
    first | exact .inl ⟨_, rfl⟩ | exact .inr (.inl ⟨_, rfl⟩) | exact .inr (.inr (by kernel_rfl))
    exact ev_attrS rfl rfl (ev_local rfl rfl rfl) clsG (.tail _ (.head _)) rfl rfl hand_ptr
    exact cd_len (sqP (.tail _ (.tail _ (.head _)))) (by rw [List.length_map]; exact own_sz hg)
    exact clsG
    rfl
    exact ev_local rfl rfl rfl
    exact .tail _ (.head _)
    exact Up.tail Up.head
    rfl
    rfl
    exact Ex.step (fun F s S => gi_end hl S) (ex_end rfl ⟨.inr ⟨rfl, rfl⟩, .rfl⟩)
theorem f_gram (hA : Rm A (n + 2)) (hg : g.Ok) : Fn X A (.ref 121) [.lst (g.names.map .str), dN g.tc, .lst (g.rules.map dRule), .dct X.w (g.lv.map lvK) (g.lv.map lvD), dOI g.expect, dN g.start] H (dGram X g) H :=
  fn_make hA rfl rfl rfl fun B dx hB => w_gram_init hB hg
end
end Mine
namespace Mine
noncomputable abbrev fdLG : FuncData := fdOf (topAt 23) "" .none pmL 251
noncomputable def mkRule (all : List Str) (i : Nat) (r : RowD) : RuleD := ⟨i, all.idxOf r.l, r.r.map all.idxOf, r.lev, r.act, r.line, r.before⟩
noncomputable def allN (sg nm : List Str) : List Str := (sg ++ [("$accept" : Str)]) ++ nm
noncomputable def mkRules (all : List Str) (rs : List RowD) : List RuleD := rs.zipIdx.map fun q => mkRule all q.2 q.1
noncomputable def startOf (rs : List RowD) : Str := ((rs.headD (accRow "")).r).headD ""
noncomputable def mkGram (sg nm : List Str) (rs : List RowD) (lv : List (Int × Int × Str)) (ex : Option Int) : Gram := ⟨allN sg nm, sg.length, mkRules (allN sg nm) rs, lv, ex, (allN sg nm).idxOf (startOf rs)⟩
/-- rows that a grammar can be made of -/
structure GOk (sg nm : List Str) (rs : List RowD) (lv : List (Int × Int × Str)) : Prop where
  l : ∀ r ∈ rs, r.l ∈ allN sg nm
  r : ∀ r ∈ rs, ∀ x ∈ r.r, x ∈ allN sg nm
  st : ∃ r0 rest s t, rs = r0 :: rest ∧ r0.r = s :: t
  z : rs.length ≤ 64
  rz : ∀ r ∈ rs, r.r.length ≤ 64
  az : (allN sg nm).length ≤ 64
  lvk : (lv.map lvK).Pairwise (· < ·)
  vz : lv.length ≤ 8
theorem mkRules_get {all : List Str} {rs : List RowD} {i : Nat} {q : RuleD} (h : (mkRules all rs)[i]? = some q) : ∃ r, rs[i]? = some r ∧ q = mkRule all i r := by
  unfold mkRules at h
  rw [List.getElem?_map, List.getElem?_zipIdx] at h
  cases hr : rs[i]? with
  | none => rw [hr] at h; cases h
  | some r => rw [hr] at h; cases h; exact ⟨r, rfl, by rw [Nat.zero_add]⟩
theorem mkRules_len {all : List Str} {rs : List RowD} : (mkRules all rs).length = rs.length := by unfold mkRules; rw [List.length_map, List.length_zipIdx]
theorem mkRules_snoc {all : List Str} {rs : List RowD} {r : RowD} : mkRules all (rs ++ [r]) = mkRules all rs ++ [mkRule all rs.length r] := by
  unfold mkRules; rw [List.zipIdx_append, List.map_append]; simp
theorem GOk.ok {sg nm : List Str} {rs : List RowD} {lv : List (Int × Int × Str)} (h : GOk sg nm rs lv) {ex : Option Int} : (mkGram sg nm rs lv ex).Ok where
  num := fun i q hq => by obtain ⟨r, _, rfl⟩ := mkRules_get hq; rfl
  left := fun q hq => by
    obtain ⟨i, hi⟩ := List.mem_iff_getElem?.mp hq
    obtain ⟨r, hr, rfl⟩ := mkRules_get hi
    exact List.idxOf_lt_length_of_mem (h.l r (List.mem_of_getElem? hr))
  right := fun q hq x hx => by
    obtain ⟨i, hi⟩ := List.mem_iff_getElem?.mp hq
    obtain ⟨r, hr, rfl⟩ := mkRules_get hi
    obtain ⟨y, hy, rfl⟩ := List.mem_map.mp hx
    exact List.idxOf_lt_length_of_mem (h.r r (List.mem_of_getElem? hr) y hy)
  tc := by show sg.length < (allN sg nm).length; unfold allN; rw [List.length_append, List.length_append]; exact Nat.lt_of_lt_of_le (Nat.lt_succ_self _) (Nat.le_add_right _ _)
  nz := h.az
  rz := by show (mkRules _ _).length ≤ 64; rw [mkRules_len]; exact h.z
  lz := fun q hq => by
    obtain ⟨i, hi⟩ := List.mem_iff_getElem?.mp hq
    obtain ⟨r, hr, rfl⟩ := mkRules_get hi
    show (r.r.map _).length ≤ 64
    rw [List.length_map]; exact h.rz r (List.mem_of_getElem? hr)
  lv := h.lvk
  vz := h.vz
section
variable {X : Cx} {A : Around} {H : Hs} {n : Nat} {g : Gram}
theorem boot_enumerate : bootBuiltins "enumerate" = some (.type "enumerate") := by decide +kernel
theorem c_rule (hA : Rm A (n + 2)) {r : RuleD} {d : D} (e : d = .tup (r.right.map dN)) : CallD X A (.ref 39) [dN r.num, dN r.left, d, .int r.lev, dOS r.act, .int r.line, .int r.before] H (dRule r) H := e ▸ (f_rule hA).call
theorem c_gram (hA : Rm A (n + 2)) {g : Gram} (hg : g.Ok) {d₂ d₆ : D} (e₂ : d₂ = dN g.tc) (e₆ : d₆ = dN g.start) : CallD X A (.ref 121) [.lst (g.names.map .str), d₂, .lst (g.rules.map dRule), .dct X.w (g.lv.map lvK) (g.lv.map lvD), dOI g.expect, d₆] H (dGram X g) H := by
  subst e₂ e₆; exact (f_gram hA hg).call
theorem w_grammar (hA : Rm A (n + 3)) {sg nm : List Str} {rs : List RowD} {lv : List (Int × Int × Str)} {ex : Option Int} (hg : GOk sg nm rs lv) : Fn X A (.ref 252) [.lst (sg.map .str), .lst (nm.map .str), .lst (rs.map dRow), .dct X.w (lv.map lvK) (lv.map lvD), dOI ex] H (dGram X (mkGram sg nm rs lv ex)) H := by
  refine fn_inC (fd := fdLG) (c := 251) (ks := ["signs", "names", "rows", "levels", "expect"]) (cn := ["all_names"]) (cs := fun n => [("all_names", n)]) (ds := [.lst (sg.map .str), .lst (nm.map .str), .lst (rs.map dRow), .dct X.w (lv.map lvK) (lv.map lvD), dOI ex]) rfl rfl rfl rfl hA.lt rfl (fun _ _ _ _ _ => rfl) rfl rfl (fun _ => rfl) (fun _ => rfl) fun L => ?_
  show Ex X _ _ ((L, P.ns [("signs", .lst (sg.map .str)), ("names", .lst (nm.map .str)), ("rows", .lst (rs.map dRow)), ("levels", .dct X.w (lv.map lvK) (lv.map lvD)), ("expect", dOI ex)]) :: (L + 1, P.cell none) :: H) _
  have hB : Rm (A.deeper (callEnvC fdLG L 252)) (n + 2) := hA.deeper
  have hz0 : (sg.map D.str).length + [D.str "$accept"].length ≤ sizeLine := by
    have := hg.az
    unfold allN at this
    rw [List.length_append, List.length_append, List.length_singleton] at this
    rw [List.length_map, List.length_singleton]; exact sz64 (by omega)
  have hz1 : (sg.map D.str ++ [D.str "$accept"]).length + (nm.map D.str).length ≤ sizeLine := by
    have := hg.az
    unfold allN at this
    rw [List.length_append, List.length_append, List.length_singleton] at this
    rw [List.length_append, List.length_map, List.length_map, List.length_singleton]; exact sz64 this
  apply ex_assign
  rfl
  apply fun h => Ev.as (d := .lst ((sg.map D.str ++ [D.str "$accept"]) ++ nm.map D.str)) h (show _ = D.lst ((allN sg nm).map .str) by unfold allN; rw [List.map_append, List.map_append]; rfl)
  apply New.ev
  apply binop_new
  rfl
  apply New.ev
  apply binop_new
  rfl
  exact ev_local rfl rfl rfl
  apply New.ev
  apply new_list
  rfl
  apply as_cons
  rfl
  rfl
  exact ev_str rfl
  exact as_nil
  rfl
  exact add_lists sq sq hz0
  exact ev_local rfl rfl rfl
  exact add_lists sq sq hz1
  apply bnd_cell
  rfl
  rfl
  first | exact .head _ | exact .tail _ (.head _) | exact .tail _ (.tail _ (.head _)) | exact .tail _ (.tail _ (.tail _ (.head _))) | exact .tail _ (.tail _ (.tail _ (.tail _ (.head _)))) | exact .tail _ (.tail _ (.tail _ (.tail _ (.tail _ (.head _))))) | exact .tail _ (.tail _ (.tail _ (.tail _ (.tail _ (.tail _ (.head _))))))
  first | exact Up.head | exact Up.tail Up.head | exact Up.tail (Up.tail Up.head) | exact Up.tail (Up.tail (Up.tail Up.head)) | exact Up.tail (Up.tail (Up.tail (Up.tail Up.head))) | exact Up.tail (Up.tail (Up.tail (Up.tail (Up.tail Up.head)))) | exact Up.tail (Up.tail (Up.tail (Up.tail (Up.tail (Up.tail Up.head)))))
  rfl
  apply ex_newL
  rfl
  rfl
  apply new_list
  rfl
  exact as_nil
  rfl
  rfl
  intro q
  refine ex_for (Z := []) (H₁ := (L, P.ns [("rules", .ptr q), ("signs", .lst (sg.map .str)), ("names", .lst (nm.map .str)), ("rows", .lst (rs.map dRow)), ("levels", .dct X.w (lv.map lvK) (lv.map lvD)), ("expect", dOI ex)]) :: (q, P.lst (([]).map dRule)) :: (L + 1, P.cell (some (.lst ((allN sg nm).map .str)))) :: H) (items := enumD (rs.map dRow)) rfl ?_ (fun j K => K = (L, P.ns [("rules", .ptr q), ("signs", .lst (sg.map .str)), ("names", .lst (nm.map .str)), ("rows", .lst (rs.map dRow)), ("levels", .dct X.w (lv.map lvK) (lv.map lvD)), ("expect", dOI ex)]) :: (q, P.lst ((mkRules (allN sg nm) (rs.take j)).map dRule)) :: (L + 1, P.cell (some (.lst ((allN sg nm).map .str)))) :: H) rfl (fun _ => rfl) (fun T j K d hJ hd => ?_) fun K hJ => ?_
  · refine srcE_enum_list hB.hh rfl rfl (ev_builtin rfl rfl rfl boot_enumerate) ?_
    apply as_cons
    rfl
    rfl
    exact ev_local rfl rfl rfl
    exact as_nil
  · subst hJ
    obtain ⟨d, hd2, rfl⟩ := enumD_get hd
    obtain ⟨r, hr0, rfl⟩ := map_get hd2
    have hr := List.mem_of_getElem? hr0
    have hj : j < rs.length := (List.getElem?_eq_some_iff.mp hr0).1
    refine ⟨_, asg_pair hB.hh rfl rfl (Bnd.asg rfl (bnd_local rfl (.head _) Up.head)) (Bnd.asg rfl (bnd_local rfl (.head _) Up.head)), ?_⟩
    apply ex_expr
    rfl
    apply ev_meth
    rfl
    exact ev_local rfl rfl rfl
    exact m_append (sqP (.tail _ (.head _)))
    first | exact .inl ⟨_, rfl⟩ | exact .inr (.inl ⟨_, rfl⟩) | exact .inr (.inr (by kernel_rfl))
    apply as_cons
    rfl
    rfl
    apply ev_call
    rfl
    exact ev_global rfl rfl rfl
    first | exact .inl ⟨_, rfl⟩ | exact .inr (.inl ⟨_, rfl⟩) | exact .inr (.inr (by kernel_rfl))
    apply as_cons
    rfl
    rfl
    exact ev_local rfl rfl rfl
    apply as_cons
    rfl
    rfl
    apply ev_meth
    rfl
    apply ev_cell
    rfl
    rfl
    rfl
    first | exact .head _ | exact .tail _ (.head _) | exact .tail _ (.tail _ (.head _)) | exact .tail _ (.tail _ (.tail _ (.head _))) | exact .tail _ (.tail _ (.tail _ (.tail _ (.head _)))) | exact .tail _ (.tail _ (.tail _ (.tail _ (.tail _ (.head _))))) | exact .tail _ (.tail _ (.tail _ (.tail _ (.tail _ (.tail _ (.head _))))))
    exact m_index sq
    first | exact .inl ⟨_, rfl⟩ | exact .inr (.inl ⟨_, rfl⟩) | exact .inr (.inr (by kernel_rfl))
    apply as_cons
    rfl
    rfl
    apply ev_itemT (k := 0)
    rfl
    exact ev_local rfl rfl rfl
    exact ev_int rfl
    exact sq
    rfl
    exact Nat.le_of_ble_eq_true rfl
    exact fun _ _ => rfl
    exact as_nil
    exact cd_idx (hg.l r hr) hg.az
    apply as_cons
    rfl
    rfl
    apply call1
    rfl
    rfl
    rfl
    exact ev_builtin rfl rfl rfl boot_tuple
    first | exact .inl ⟨_, rfl⟩ | exact .inr (.inl ⟨_, rfl⟩) | exact .inr (.inr (by kernel_rfl))
    apply ev_compA (r.r) (D.str) (fun y => dN ((allN sg nm).idxOf y))
    rfl
    exact ⟨rfl, rfl, rfl, rfl, fun _ => rfl⟩
    apply srcE (d := .tup (r.r.map .str))
    apply ev_itemT (k := 1)
    rfl
    exact ev_local rfl rfl rfl
    exact ev_int rfl
    exact sq
    rfl
    exact Nat.le_of_ble_eq_true rfl
    exact fun _ _ => rfl
    exact src_tup hB.hh fun _ _ => rfl
    exact sz64 (hg.rz r hr)
    · refine fun C T y hy => ⟨_, Bnd.asg rfl (bnd_local rfl (.head _) Up.head), ?_⟩
      apply ev_meth
      rfl
      apply ev_cell
      rfl
      rfl
      rfl
      first | exact .head _ | exact .tail _ (.head _) | exact .tail _ (.tail _ (.head _)) | exact .tail _ (.tail _ (.tail _ (.head _))) | exact .tail _ (.tail _ (.tail _ (.tail _ (.head _)))) | exact .tail _ (.tail _ (.tail _ (.tail _ (.tail _ (.head _))))) | exact .tail _ (.tail _ (.tail _ (.tail _ (.tail _ (.tail _ (.head _))))))
      exact m_index sq
      first | exact .inl ⟨_, rfl⟩ | exact .inr (.inl ⟨_, rfl⟩) | exact .inr (.inr (by kernel_rfl))
      apply as_cons
      rfl
      rfl
      exact ev_local rfl rfl rfl
      exact as_nil
      exact cd_idx (hg.r r hr y hy) hg.az
    apply cd_tuple (ds := r.r.map fun y => dN ((allN sg nm).idxOf y)) sq (by rw [List.length_map]; exact sz64 (hg.rz r hr))
    apply as_cons
    rfl
    rfl
    apply ev_itemT (k := 2)
    rfl
    exact ev_local rfl rfl rfl
    exact ev_int rfl
    exact sq
    rfl
    exact Nat.le_of_ble_eq_true rfl
    exact fun _ _ => rfl
    apply as_cons
    rfl
    rfl
    apply ev_itemT (k := 3)
    rfl
    exact ev_local rfl rfl rfl
    exact ev_int rfl
    exact sq
    rfl
    exact Nat.le_of_ble_eq_true rfl
    exact fun _ _ => rfl
    apply as_cons
    rfl
    rfl
    apply ev_itemT (k := 4)
    rfl
    exact ev_local rfl rfl rfl
    exact ev_int rfl
    exact sq
    rfl
    exact Nat.le_of_ble_eq_true rfl
    exact fun _ _ => rfl
    apply as_cons
    rfl
    rfl
    apply ev_itemT (k := 5)
    rfl
    exact ev_local rfl rfl rfl
    exact ev_int rfl
    exact sq
    rfl
    exact Nat.le_of_ble_eq_true rfl
    exact fun _ _ => rfl
    exact as_nil
    exact c_rule (r := mkRule (allN sg nm) j r) hB (show D.tup _ = _ from congrArg D.tup (List.map_map (g := dN) (f := (allN sg nm).idxOf) (l := r.r)).symm)
    exact as_nil
    exact cd_append (.tail _ (.head _)) (Up.tail Up.head) (by rw [List.length_map, mkRules_len, List.length_take]; exact sz64 (Nat.le_trans (Nat.min_le_right _ _) hg.z))
    rfl
    rfl
    refine Ex.ns (m' := [("rules", .ptr q), ("signs", .lst (sg.map .str)), ("names", .lst (nm.map .str)), ("rows", .lst (rs.map dRow)), ("levels", .dct X.w (lv.map lvK) (lv.map lvD)), ("expect", dOI ex)]) ?_ (nsk_cons rfl (nsk_cons rfl (nsk_cons rfl (nsk_cons rfl (nsk_cons rfl (nsk_cons rfl nsk_nil))))))
    refine ex_end rfl ⟨.inl rfl, (L, P.ns [("rules", .ptr q), ("signs", .lst (sg.map .str)), ("names", .lst (nm.map .str)), ("rows", .lst (rs.map dRow)), ("levels", .dct X.w (lv.map lvK) (lv.map lvD)), ("expect", dOI ex)]) :: (q, P.lst ((mkRules (allN sg nm) (rs.take (j + 1))).map dRule)) :: (L + 1, P.cell (some (.lst ((allN sg nm).map .str)))) :: H, ?_, rfl⟩
    rw [List.take_succ_eq_append_getElem hj, show rs[j] = r from (List.getElem?_eq_some_iff.mp hr0).2, mkRules_snoc, List.map_append, List.length_take, Nat.min_eq_left (Nat.le_of_lt hj)]
    rfl
  · subst hJ
    obtain ⟨r0, rest, s, t, rfl, h0⟩ := hg.st
    rw [enumD_length, List.length_map, List.take_length]
    apply ex_ret
    rfl
    apply ev_call
    rfl
    exact ev_global rfl rfl rfl
    first | exact .inl ⟨_, rfl⟩ | exact .inr (.inl ⟨_, rfl⟩) | exact .inr (.inr (by kernel_rfl))
    apply as_cons
    rfl
    rfl
    apply ev_cell
    rfl
    rfl
    rfl
    first | exact .head _ | exact .tail _ (.head _) | exact .tail _ (.tail _ (.head _)) | exact .tail _ (.tail _ (.tail _ (.head _))) | exact .tail _ (.tail _ (.tail _ (.tail _ (.head _)))) | exact .tail _ (.tail _ (.tail _ (.tail _ (.tail _ (.head _))))) | exact .tail _ (.tail _ (.tail _ (.tail _ (.tail _ (.tail _ (.head _))))))
    apply as_cons
    rfl
    rfl
    apply call1
    rfl
    rfl
    rfl
    exact ev_builtin rfl rfl rfl boot_len
    first | exact .inl ⟨_, rfl⟩ | exact .inr (.inl ⟨_, rfl⟩) | exact .inr (.inr (by kernel_rfl))
    exact ev_local rfl rfl rfl
    exact cd_len sq (by have := hz0; omega)
    apply as_cons
    rfl
    rfl
    apply Ev.frz (ev_local rfl rfl rfl)
    repeat (first | apply Pull.head | apply Pull.tail)
    apply as_cons
    rfl
    rfl
    exact ev_local rfl rfl rfl
    apply as_cons
    rfl
    rfl
    exact ev_local rfl rfl rfl
    apply as_cons
    rfl
    rfl
    apply ev_meth
    rfl
    apply ev_cell
    rfl
    rfl
    rfl
    first | exact .head _ | exact .tail _ (.head _) | exact .tail _ (.tail _ (.head _)) | exact .tail _ (.tail _ (.tail _ (.head _))) | exact .tail _ (.tail _ (.tail _ (.tail _ (.head _)))) | exact .tail _ (.tail _ (.tail _ (.tail _ (.tail _ (.head _))))) | exact .tail _ (.tail _ (.tail _ (.tail _ (.tail _ (.tail _ (.head _))))))
    exact m_index sq
    first | exact .inl ⟨_, rfl⟩ | exact .inr (.inl ⟨_, rfl⟩) | exact .inr (.inr (by kernel_rfl))
    apply as_cons
    rfl
    rfl
    apply ev_itemT (k := 0)
    rfl
    apply ev_itemT (k := 1)
    rfl
    apply ev_item (k := 0)
    rfl
    exact ev_local rfl rfl rfl
    exact ev_int rfl
    exact sq
    rfl
    exact Nat.le_of_ble_eq_true rfl
    exact fun _ _ => rfl
    exact ev_int rfl
    exact sq
    rfl
    exact Nat.le_of_ble_eq_true rfl
    exact fun _ _ => rfl
    exact ev_int rfl
    exact sq
    exact (show (r0.r.map D.str)[0]? = some (D.str s) by rw [h0]; rfl)
    exact Nat.le_of_ble_eq_true rfl
    exact fun _ _ => rfl
    exact as_nil
    exact cd_idx (hg.r r0 (.head _) s (h0 ▸ .head _)) hg.az
    exact as_nil
    exact c_gram (g := mkGram sg nm (r0 :: rest) lv ex) hB hg.ok (show D.int _ = dN sg.length by rw [List.length_map]; rfl) (show D.int _ = dN ((allN sg nm).idxOf (r0.r.headD "")) by rw [h0]; rfl)
    exact ⟨.inl rfl, .skip (.skip .rfl)⟩
end
end Mine
namespace Mine
noncomputable abbrev fdLH : FuncData := fdOf (topAt 24) "" .none pmL 256
/-- all of the row's right side stands in these -/
noncomputable def allIn (xs : List Str) (r : RowD) : Bool := (r.r.filter fun y => !xs.contains y).isEmpty
noncomputable def hstep (rs : List RowD) (xs : List Str) : List Str := xs ++ (rs.filter fun r => !xs.contains r.l && allIn xs r).map fun r => r.l
noncomputable def hav (rs : List RowD) : Nat → List Str → List Str
  | 0, xs => xs
  | n + 1, xs => hstep rs (hav rs n xs)
/-- texts of the rows that can be laid -/
structure ROk (rs : List RowD) : Prop where
  l : ∀ r ∈ rs, PyData.strOk r.l = true
  r : ∀ r ∈ rs, SOk r.r
  z : rs.length ≤ 64
  rz : ∀ r ∈ rs, r.r.length ≤ 64
theorem hstep_ok {rs : List RowD} {xs : List Str} (h : ROk rs) (hx : SOk xs) : SOk (hstep rs xs) := fun x hm => by
  unfold hstep at hm
  rcases List.mem_append.mp hm with hm | hm
  · exact hx x hm
  · obtain ⟨r, hr, rfl⟩ := List.mem_map.mp hm
    exact h.l r (List.mem_filter.mp hr).1
theorem hav_ok {rs : List RowD} {xs : List Str} (h : ROk rs) (hx : SOk xs) : ∀ n, SOk (hav rs n xs)
  | 0 => hx
  | n + 1 => hstep_ok h (hav_ok h hx n)
theorem hstep_le {rs : List RowD} {xs : List Str} : (hstep rs xs).length ≤ xs.length + rs.length := by
  unfold hstep
  rw [List.length_append, List.length_map]
  exact Nat.add_le_add_left (List.length_filter_le _ _) _
theorem hav_le {rs : List RowD} {xs : List Str} : ∀ n, (hav rs n xs).length ≤ xs.length + n * rs.length
  | 0 => by rw [Nat.zero_mul]; exact Nat.le_refl _
  | n + 1 => by
    have h1 := hav_le (rs := rs) (xs := xs) n
    have h2 := hstep_le (rs := rs) (xs := hav rs n xs)
    rw [Nat.add_mul, Nat.one_mul]
    show (hstep rs (hav rs n xs)).length ≤ _
    omega
section
variable {X : Cx} {A : Around} {H : Hs} {n : Nat} {g : Gram}
theorem w_having (hA : Rm A (n + 1)) {sg : List Str} {rs : List RowD} (hs : SOk sg) (hsz : sg.length ≤ 64) (hr : ROk rs) : Fn X A (.ref 257) [.lst (sg.map .str), .lst (rs.map dRow)] H (.lst ((hav rs rs.length sg).map .str)) H := by
  refine fn_inC (fd := fdLH) (c := 256) (ks := ["signs", "rows"]) (cn := ["found"]) (cs := fun n => [("found", n)]) (ds := [.lst (sg.map .str), .lst (rs.map dRow)]) rfl rfl rfl rfl hA.lt rfl (fun _ _ => rfl) rfl rfl (fun _ => rfl) (fun _ => rfl) fun L => ?_
  show Ex X _ _ ((L, P.ns [("signs", .lst (sg.map .str)), ("rows", .lst (rs.map dRow))]) :: (L + 1, P.cell none) :: H) _
  have hB : Rm (A.deeper (callEnvC fdLH L 257)) n := hA.deeper
  have hzr : (rs.map dRow).length ≤ sizeLine := by rw [List.length_map]; exact sz64 hr.z
  apply ex_assign
  rfl
  apply New.ev
  apply new_call
  rfl
  exact ev_builtin rfl rfl rfl boot_list
  first | exact .inl ⟨_, rfl⟩ | exact .inr (.inl ⟨_, rfl⟩) | exact .inr (.inr (by kernel_rfl))
  apply as_cons
  rfl
  rfl
  exact ev_local rfl rfl rfl
  exact as_nil
  exact cn_list (.inl rfl) sq (by rw [List.length_map]; exact sz64 hsz)
  apply bnd_cell
  rfl
  rfl
  first | exact .head _ | exact .tail _ (.head _) | exact .tail _ (.tail _ (.head _)) | exact .tail _ (.tail _ (.tail _ (.head _))) | exact .tail _ (.tail _ (.tail _ (.tail _ (.head _)))) | exact .tail _ (.tail _ (.tail _ (.tail _ (.tail _ (.head _))))) | exact .tail _ (.tail _ (.tail _ (.tail _ (.tail _ (.tail _ (.head _))))))
  first | exact Up.head | exact Up.tail Up.head | exact Up.tail (Up.tail Up.head) | exact Up.tail (Up.tail (Up.tail Up.head)) | exact Up.tail (Up.tail (Up.tail (Up.tail Up.head))) | exact Up.tail (Up.tail (Up.tail (Up.tail (Up.tail Up.head)))) | exact Up.tail (Up.tail (Up.tail (Up.tail (Up.tail (Up.tail Up.head)))))
  rfl
  refine ex_for (Z := []) (H₁ := (L, P.ns [("signs", .lst (sg.map .str)), ("rows", .lst (rs.map dRow))]) :: (L + 1, P.cell (some (.lst ((sg).map .str)))) :: H) (items := upFrom 0 rs.length) rfl ?_ (fun j K => K = (L, P.ns [("signs", .lst (sg.map .str)), ("rows", .lst (rs.map dRow))]) :: (L + 1, P.cell (some (.lst ((hav rs j sg).map .str)))) :: H) rfl (fun _ => rfl) (fun T j K d hJ hd => ?_) fun K hJ => ?_
  · apply srcE (d := .rng 0 (rs.length : Nat))
    apply call1
    rfl
    rfl
    rfl
    exact ev_builtin rfl rfl rfl boot_range
    first | exact .inl ⟨_, rfl⟩ | exact .inr (.inl ⟨_, rfl⟩) | exact .inr (.inr (by kernel_rfl))
    apply call1
    rfl
    rfl
    rfl
    exact ev_builtin rfl rfl rfl boot_len
    first | exact .inl ⟨_, rfl⟩ | exact .inr (.inl ⟨_, rfl⟩) | exact .inr (.inr (by kernel_rfl))
    exact ev_local rfl rfl rfl
    exact cd_len sq hzr
    exact cd_rangeN (n := rs.length) (by rw [List.length_map])
    exact src_range0 hB.hh (fun _ _ => rfl) hr.z
  · subst hJ
    obtain ⟨hj, rfl⟩ := upFrom_get hd
    have hok := hav_ok hr hs j
    have hlz : (hav rs j sg).length + (rs.filter fun r => !(hav rs j sg).contains r.l && allIn (hav rs j sg) r).length ≤ sizeLine := by
        have h1 := hav_le (rs := rs) (xs := sg) (j + 1)
        have h2 : (hav rs (j + 1) sg).length = _ := List.length_append ..
        rw [List.length_map] at h2
        have h3 : (j + 1) * rs.length ≤ 64 * 64 := Nat.mul_le_mul (Nat.le_trans hj hr.z) hr.z
        have h4 : 5000 ≤ sizeLine := by decide
        omega
    refine ⟨_, Bnd.asg rfl (bnd_local rfl (.head _) Up.head), ?_⟩
    apply ex_assign
    rfl
    apply fun h => Ev.as h (show _ = D.lst ((hstep rs (hav rs j sg)).map .str) by unfold hstep; rw [List.map_append, List.map_map])
    apply New.ev
    apply binop_new
    rfl
    apply ev_cell
    rfl
    rfl
    rfl
    first | exact .head _ | exact .tail _ (.head _) | exact .tail _ (.tail _ (.head _)) | exact .tail _ (.tail _ (.tail _ (.head _))) | exact .tail _ (.tail _ (.tail _ (.tail _ (.head _)))) | exact .tail _ (.tail _ (.tail _ (.tail _ (.tail _ (.head _))))) | exact .tail _ (.tail _ (.tail _ (.tail _ (.tail _ (.tail _ (.head _))))))
    apply ev_compF (rs) (dRow) (fun r => .str r.l) (fun r => !(hav rs j sg).contains r.l && allIn (hav rs j sg) r)
    rfl
    exact ⟨rfl, rfl, rfl, rfl, fun _ => rfl⟩
    apply srcE (d := .lst (rs.map dRow))
    exact ev_local rfl rfl rfl
    exact src_list hB.hh fun _ _ => rfl
    exact sz64 hr.z
    · refine fun C T r hrr => ⟨_, Bnd.asg rfl (bnd_local rfl (.head _) Up.head), ?_, fun hp => ?_⟩
      · apply ask_and
        rfl
        apply ask_cmp
        rfl
        apply ev_itemT (k := 0)
        rfl
        exact ev_local rfl rfl rfl
        exact ev_int rfl
        exact sq
        rfl
        exact Nat.le_of_ble_eq_true rfl
        exact fun _ _ => rfl
        apply ev_cell
        rfl
        rfl
        rfl
        first | exact .head _ | exact .tail _ (.head _) | exact .tail _ (.tail _ (.head _)) | exact .tail _ (.tail _ (.tail _ (.head _))) | exact .tail _ (.tail _ (.tail _ (.tail _ (.head _)))) | exact .tail _ (.tail _ (.tail _ (.tail _ (.tail _ (.head _))))) | exact .tail _ (.tail _ (.tail _ (.tail _ (.tail _ (.tail _ (.head _))))))
        exact op_notinS hB sq hok (hr.l r hrr)
        rfl
        intro hT1
        apply ask_cmp
        rfl
        apply ev_compF (r.r) (D.str) (D.str) (fun y => !(hav rs j sg).contains y)
        rfl
        exact ⟨rfl, rfl, rfl, rfl, fun _ => rfl⟩
        apply srcE (d := .tup (r.r.map .str))
        apply ev_itemT (k := 1)
        rfl
        exact ev_local rfl rfl rfl
        exact ev_int rfl
        exact sq
        rfl
        exact Nat.le_of_ble_eq_true rfl
        exact fun _ _ => rfl
        exact src_tup hB.hh fun _ _ => rfl
        exact sz64 (hr.rz r hrr)
        · refine fun C T y hy => ⟨_, Bnd.asg rfl (bnd_local rfl (.head _) Up.head), ?_, fun hp => ?_⟩
          · apply ask_cmp
            rfl
            exact ev_local rfl rfl rfl
            apply ev_cell
            rfl
            rfl
            rfl
            first | exact .head _ | exact .tail _ (.head _) | exact .tail _ (.tail _ (.head _)) | exact .tail _ (.tail _ (.tail _ (.head _))) | exact .tail _ (.tail _ (.tail _ (.tail _ (.head _)))) | exact .tail _ (.tail _ (.tail _ (.tail _ (.tail _ (.head _))))) | exact .tail _ (.tail _ (.tail _ (.tail _ (.tail _ (.tail _ (.head _))))))
            exact op_notinS hB sq hok (hr.r r hrr y hy)
            rfl
          · exact ev_local rfl rfl rfl
        exact ev_nil rfl
        exact op_eqNilS hB fun x hx => hr.r r hrr x (List.mem_filter.mp hx).1
        rfl
        exact fun _ => rfl
      · apply ev_itemT (k := 0)
        rfl
        exact ev_local rfl rfl rfl
        exact ev_int rfl
        exact sq
        rfl
        exact Nat.le_of_ble_eq_true rfl
        exact fun _ _ => rfl
    exact add_lists sq sq (by rw [List.length_map, List.length_map]; exact hlz)
    apply bnd_cell
    rfl
    rfl
    first | exact .head _ | exact .tail _ (.head _) | exact .tail _ (.tail _ (.head _)) | exact .tail _ (.tail _ (.tail _ (.head _))) | exact .tail _ (.tail _ (.tail _ (.tail _ (.head _)))) | exact .tail _ (.tail _ (.tail _ (.tail _ (.tail _ (.head _))))) | exact .tail _ (.tail _ (.tail _ (.tail _ (.tail _ (.tail _ (.head _))))))
    first | exact Up.head | exact Up.tail Up.head | exact Up.tail (Up.tail Up.head) | exact Up.tail (Up.tail (Up.tail Up.head)) | exact Up.tail (Up.tail (Up.tail (Up.tail Up.head))) | exact Up.tail (Up.tail (Up.tail (Up.tail (Up.tail Up.head)))) | exact Up.tail (Up.tail (Up.tail (Up.tail (Up.tail (Up.tail Up.head)))))
    rfl
    refine Ex.ns (m' := [("signs", .lst (sg.map .str)), ("rows", .lst (rs.map dRow))]) ?_ (nsk_cons rfl (nsk_cons rfl nsk_nil))
    exact ex_end rfl ⟨.inl rfl, (L, P.ns [("signs", .lst (sg.map .str)), ("rows", .lst (rs.map dRow))]) :: (L + 1, P.cell (some (.lst ((hav rs (j + 1) sg).map .str)))) :: H, rfl, rfl⟩
  · subst hJ
    rw [upFrom_len]
    apply ex_ret
    rfl
    apply ev_cell
    rfl
    rfl
    rfl
    first | exact .head _ | exact .tail _ (.head _) | exact .tail _ (.tail _ (.head _)) | exact .tail _ (.tail _ (.tail _ (.head _))) | exact .tail _ (.tail _ (.tail _ (.tail _ (.head _)))) | exact .tail _ (.tail _ (.tail _ (.tail _ (.tail _ (.head _))))) | exact .tail _ (.tail _ (.tail _ (.tail _ (.tail _ (.tail _ (.head _))))))
    exact ⟨.inl rfl, .skip (.skip .rfl)⟩
end
end Mine
namespace Mine
theorem snoc_ind {α : Type} {p : List α → Prop} (h0 : p []) (hs : ∀ l x, p l → p (l ++ [x])) (l : List α) : p l := by
  have : ∀ l : List α, p l.reverse := by
    intro l
    induction l with
    | nil => exact h0
    | cons x l ih => rw [List.reverse_cons]; exact hs _ _ ih
  have h := this l.reverse
  rwa [List.reverse_reverse] at h
theorem contains_iff {xs : List Str} {x : Str} : xs.contains x = true ↔ x ∈ xs := List.contains_iff_mem
theorem ncontains_iff {xs : List Str} {x : Str} : (!xs.contains x) = true ↔ x ∉ xs := by
  rw [Bool.not_eq_true', ← Bool.not_eq_true, contains_iff]
theorem allIn_iff {xs : List Str} {r : RowD} : allIn xs r = true ↔ ∀ y ∈ r.r, y ∈ xs := by
  unfold allIn
  rw [List.isEmpty_iff, List.filter_eq_nil_iff]
  refine ⟨fun h y hy => ?_, fun h y hy => ?_⟩
  · have := h y hy; rw [ncontains_iff] at this; exact Classical.not_not.mp this
  · rw [ncontains_iff]; exact fun hn => hn (h y hy)
noncomputable def newOf (xs w : List Str) : List Str := (w.zipIdx.filter fun q => !xs.contains q.1 && !(w.take q.2).contains q.1).map fun q => q.1
theorem newOf_snoc {xs w : List Str} {x : Str} : newOf xs (w ++ [x]) = newOf xs w ++ if x ∉ xs ∧ x ∉ w then [x] else [] := by
  unfold newOf
  rw [List.zipIdx_append, List.filter_append, List.map_append]
  congr 1
  · congr 1
    refine List.filter_congr fun q hq => ?_
    have hlt : q.2 < w.length := by have := List.snd_lt_of_mem_zipIdx hq; simpa using this
    rw [List.take_append_of_le_length (Nat.le_of_lt hlt)]
  · show (List.filter _ [(x, 0 + w.length)]).map _ = _
    rw [Nat.zero_add, List.filter_cons, List.filter_nil, List.take_left]
    have e : (!xs.contains x && !w.contains x) = true ↔ (x ∉ xs ∧ x ∉ w) := by rw [Bool.and_eq_true, ncontains_iff, ncontains_iff]
    show (if (!xs.contains x && !w.contains x) = true then [(x, w.length)] else []).map _ = _
    by_cases h : x ∉ xs ∧ x ∉ w
    · rw [if_pos h, if_pos (e.mpr h)]; rfl
    · rw [if_neg h, if_neg (fun q => h (e.mp q))]; rfl
theorem newOf_mem {xs w : List Str} {x : Str} : x ∈ newOf xs w ↔ x ∈ w ∧ x ∉ xs := by
  induction w using snoc_ind with
  | h0 => exact ⟨fun h => (List.not_mem_nil h).elim, fun h => (List.not_mem_nil h.1).elim⟩
  | hs w y ih =>
    rw [newOf_snoc, List.mem_append, ih, List.mem_append, List.mem_singleton]
    by_cases h : y ∉ xs ∧ y ∉ w
    · rw [if_pos h, List.mem_singleton]
      refine ⟨fun z => z.elim (fun z => ⟨.inl z.1, z.2⟩) fun z => ⟨.inr z, z ▸ h.1⟩, fun z => z.1.elim (fun q => .inl ⟨q, z.2⟩) .inr⟩
    · rw [if_neg h]
      refine ⟨fun z => z.elim (fun z => ⟨.inl z.1, z.2⟩) fun z => (List.not_mem_nil z).elim, fun z => .inl ⟨z.1.elim id fun q => ?_, z.2⟩⟩
      subst q
      exact Classical.byContradiction fun hn => h ⟨z.2, hn⟩
theorem newOf_nodup {xs w : List Str} (h : xs.Nodup) : (xs ++ newOf xs w).Nodup := by
  induction w using snoc_ind with
  | h0 => show (xs ++ []).Nodup; rw [List.append_nil]; exact h
  | hs w y ih =>
    rw [newOf_snoc, ← List.append_assoc]
    by_cases hy : y ∉ xs ∧ y ∉ w
    · rw [if_pos hy]
      refine List.nodup_append.mpr ⟨ih, List.nodup_cons.mpr ⟨List.not_mem_nil, List.nodup_nil⟩, fun a ha b hb e => ?_⟩
      rw [List.mem_singleton] at hb
      subst hb e
      rcases List.mem_append.mp ha with h | h
      · exact hy.1 h
      · exact hy.2 (newOf_mem.mp h).1
    · rw [if_neg hy, List.append_nil]; exact ih
noncomputable def nrow (hv : List Str) (y : Str) (xs : List Str) (r : RowD) : List Str := if r.l == y && allIn hv r then xs ++ newOf xs r.r else xs
inductive NReach (rs : List RowD) (hv : List Str) : Str → Prop
  | acc : NReach rs hv "$accept"
  | step {r : RowD} {x : Str} (h : r ∈ rs) (l : NReach rs hv r.l) (a : allIn hv r = true) (m : x ∈ r.r) : NReach rs hv x
noncomputable def univ (rs : List RowD) : List Str := "$accept" :: rs.flatMap fun r => r.r
theorem NReach.univ {rs : List RowD} {hv : List Str} {x : Str} (h : NReach rs hv x) : x ∈ univ rs := by
  cases h with
  | acc => exact .head _
  | step h l a m => exact .tail _ (List.mem_flatMap.mpr ⟨_, h, m⟩)
/-- between the turns of the outer loop -/
structure NInv (rs : List RowD) (hv xs : List Str) (at_ : Nat) : Prop where
  nd : xs.Nodup
  acc : ("$accept" : Str) ∈ xs
  sound : ∀ x ∈ xs, NReach rs hv x
  closed : ∀ i y, i < at_ → xs[i]? = some y → ∀ r ∈ rs, r.l = y → allIn hv r = true → ∀ x ∈ r.r, x ∈ xs
  le : at_ ≤ xs.length
theorem NInv.len {rs : List RowD} {hv xs : List Str} {k : Nat} (h : NInv rs hv xs k) : xs.length ≤ (univ rs).length :=
  h.nd.length_le_of_subset fun x hx => (h.sound x hx).univ
/-- between the turns of the inner loop -/
structure NIn (rs : List RowD) (hv xs : List Str) (y : Str) (j : Nat) (zs : List Str) : Prop where
  pre : ∃ t, zs = xs ++ t
  nd : zs.Nodup
  sound : ∀ x ∈ zs, NReach rs hv x
  closed : ∀ r ∈ rs.take j, r.l = y → allIn hv r = true → ∀ x ∈ r.r, x ∈ zs
theorem NIn.step {rs : List RowD} {hv xs zs : List Str} {y : Str} {j : Nat} {r : RowD} (h : NIn rs hv xs y j zs) (hy : NReach rs hv y) (hj : rs[j]? = some r) : NIn rs hv xs y (j + 1) (nrow hv y zs r) := by
  have hlt : j < rs.length := (List.getElem?_eq_some_iff.mp hj).1
  have hr : rs[j] = r := (List.getElem?_eq_some_iff.mp hj).2
  have hm : r ∈ rs := List.mem_of_getElem? hj
  unfold nrow
  by_cases hc : (r.l == y && allIn hv r) = true
  · rw [if_pos hc]
    rw [Bool.and_eq_true, beq_iff_eq] at hc
    obtain ⟨t, ht⟩ := h.pre
    refine ⟨⟨t ++ newOf zs r.r, by rw [ht, List.append_assoc]⟩, newOf_nodup h.nd, fun x hx => ?_, fun q hq hl ha x hx => ?_⟩
    · rcases List.mem_append.mp hx with hx | hx
      · exact h.sound x hx
      · exact .step hm (hc.1 ▸ hy) hc.2 (newOf_mem.mp hx).1
    · rw [List.take_succ_eq_append_getElem hlt, hr] at hq
      rcases List.mem_append.mp hq with hq | hq
      · exact List.mem_append_left _ (h.closed q hq hl ha x hx)
      · cases List.mem_singleton.mp hq
        by_cases hz : x ∈ zs
        · exact List.mem_append_left _ hz
        · exact List.mem_append_right _ (newOf_mem.mpr ⟨hx, hz⟩)
  · rw [if_neg hc]
    refine ⟨h.pre, h.nd, h.sound, fun q hq hl ha x hx => ?_⟩
    rw [List.take_succ_eq_append_getElem hlt, hr] at hq
    rcases List.mem_append.mp hq with hq | hq
    · exact h.closed q hq hl ha x hx
    · cases List.mem_singleton.mp hq
      exact absurd (by rw [Bool.and_eq_true, beq_iff_eq]; exact ⟨hl, ha⟩) hc
theorem NIn.start {rs : List RowD} {hv xs : List Str} {y : Str} {k : Nat} (h : NInv rs hv xs k) : NIn rs hv xs y 0 xs := ⟨⟨[], (List.append_nil _).symm⟩, h.nd, h.sound, fun r hr => nomatch hr⟩
theorem NIn.done {rs : List RowD} {hv xs zs : List Str} {y : Str} {k : Nat} (h : NInv rs hv xs k) (hy : xs[k]? = some y) (i : NIn rs hv xs y rs.length zs) : NInv rs hv zs (k + 1) := by
  obtain ⟨t, rfl⟩ := i.pre
  have hk : k < xs.length := (List.getElem?_eq_some_iff.mp hy).1
  refine ⟨i.nd, List.mem_append_left _ h.acc, i.sound, fun m z hm hz r hr hl ha x hx => ?_, by rw [List.length_append]; omega⟩
  rw [List.getElem?_append_left (by omega)] at hz
  rcases Nat.lt_succ_iff_lt_or_eq.mp hm with hm | rfl
  · exact List.mem_append_left _ (h.closed m z hm hz r hr hl ha x hx)
  · rw [hy] at hz; cases hz
    exact i.closed r (by rw [List.take_length]; exact hr) hl ha x hx
theorem NInv.all {rs : List RowD} {hv xs : List Str} (h : NInv rs hv xs xs.length) {x : Str} : x ∈ xs ↔ NReach rs hv x := by
  refine ⟨h.sound x, fun hx => ?_⟩
  induction hx with
  | acc => exact h.acc
  | step hr l a m ih =>
    obtain ⟨i, hi⟩ := List.mem_iff_getElem?.mp ih
    exact h.closed i _ (List.getElem?_eq_some_iff.mp hi).1 hi _ hr rfl a _ m
theorem NInv.start {rs : List RowD} {hv : List Str} : NInv rs hv ["$accept"] 0 := ⟨List.nodup_cons.mpr ⟨List.not_mem_nil, List.nodup_nil⟩, .head _, fun x hx => by cases List.mem_singleton.mp hx; exact .acc, fun i y hi => by omega, Nat.zero_le _⟩
end Mine
namespace Mine
noncomputable abbrev fdLN : FuncData := fdOf (topAt 25) "" .none pmL 261
theorem enum_map {α : Type} {f : α → D} {w : List α} : enumD (w.map f) = w.zipIdx.map fun q => D.tup [.int (q.2 : Int), f q.1] := by
  unfold enumD; rw [List.zipIdx_map, List.map_map]; rfl
section
variable {X : Cx} {A : Around} {H : Hs} {n : Nat} {g : Gram}
theorem op_eqS {x y : Str} (hA : Rm A n) (hx : PyData.strOk x = true) (hy : PyData.strOk y = true) : Op2 X A (compareOp .Eq) (.str x) (.str y) H (.bool (x == y)) H := by
  have := op_eq (X := X) (A := A) (H := H) (rd_str (x := x)).s (rd_str (x := y)).s hx hy (hA.fit (Nat.le_trans (Nat.min_le_right _ _) (Nat.zero_le _)))
  rwa [show PyData.eqv (.str x) (.str y) = (x == y) from by rw [PyData.eqv.eq_def]] at this
theorem zip_mem {α : Type} {w : List α} {q : α × Nat} (h : q ∈ w.zipIdx) : q.1 ∈ w := List.fst_mem_of_mem_zipIdx h
theorem zip_lt {α : Type} {w : List α} {q : α × Nat} (h : q ∈ w.zipIdx) : q.2 < w.length := by have := List.snd_lt_of_mem_zipIdx h; simpa using this
theorem NReach.sok {rs : List RowD} {hv : List Str} {x : Str} (hr : ROk rs) (h : NReach rs hv x) : PyData.strOk x = true := by
  cases h with
  | acc => decide +kernel
  | step h l a m => exact hr.r _ h x m
theorem univ_le {rs : List RowD} (hr : ∀ r ∈ rs, r.r.length ≤ 64) : (univ rs).length ≤ 1 + 64 * rs.length := by
  unfold univ
  rw [List.length_cons]
  have : ∀ l : List RowD, (∀ r ∈ l, r.r.length ≤ 64) → (l.flatMap fun r => r.r).length ≤ 64 * l.length := by
    intro l h
    induction l with
    | nil => exact Nat.le_refl _
    | cons r l ih =>
      rw [List.flatMap_cons, List.length_append, List.length_cons]
      have := ih fun q hq => h q (List.mem_cons_of_mem _ hq)
      have := h r (.head _)
      omega
  have := this rs hr
  omega
theorem w_needed (hA : Rm A (n + 1)) {hv : List Str} {rs : List RowD} (hs : SOk hv) (hr : ROk rs) : FnQ X A (.ref 262) [.lst (rs.map dRow), .lst (hv.map .str)] H fun d K => ∃ nd : List Str, d = .lst (nd.map .str) ∧ K = H ∧ nd.length ≤ 5000 ∧ SOk nd ∧ ∀ x, x ∈ nd ↔ NReach rs hv x := by
  refine fn_inCQ (fd := fdLN) (c := 261) (ks := ["rows", "having"]) (cn := ["row", "found", "having"]) (cs := fun n => [("row", n + 2), ("found", n + 1), ("having", n)]) (ds := [.lst (rs.map dRow), .lst (hv.map .str)]) rfl rfl rfl rfl hA.lt rfl (fun _ _ => rfl) rfl rfl (fun _ => rfl) (fun _ => rfl) fun L => ?_
  show Ex X _ _ ((L, P.ns [("rows", .lst (rs.map dRow))]) :: (L + 3, P.cell none) :: (L + 2, P.cell none) :: (L + 1, P.cell (some (.lst (hv.map .str)))) :: H) _
  have hB : Rm (A.deeper (callEnvC fdLN L 262)) n := hA.deeper
  have hzr : (rs.map dRow).length ≤ sizeLine := by rw [List.length_map]; exact sz64 hr.z
  have hU : (univ rs).length ≤ 4200 := by have := univ_le hr.rz; have := hr.z; omega
  have h5 : 10000 ≤ sizeLine := by decide
  apply ex_assignTup
  rfl
  rfl
  rfl
  apply ev_tup
  rfl
  apply as_cons
  rfl
  rfl
  apply New.ev
  apply new_list
  rfl
  apply as_cons
  rfl
  rfl
  exact ev_str rfl
  exact as_nil
  rfl
  apply as_cons
  rfl
  rfl
  exact ev_int rfl
  exact as_nil
  rfl
  exact asg_pair hB.hh rfl rfl (Bnd.asg rfl (bnd_cell rfl rfl (.tail _ (.tail _ (.head _))) (Up.tail (Up.tail Up.head)))) (Bnd.asg rfl (bnd_local rfl (.head _) Up.head))
  rfl
  refine ex_while rfl (fun m K => ∃ xs at_ ro, K = (L, P.ns [("at", .int (at_ : Nat)), ("rows", .lst (rs.map dRow))]) :: (L + 3, P.cell ro) :: (L + 2, P.cell (some (.lst ((xs).map .str)))) :: (L + 1, P.cell (some (.lst (hv.map .str)))) :: H ∧ NInv rs hv xs at_ ∧ m = (univ rs).length + 1 - at_) (fun K => ∃ xs ro, K = (L, P.ns [("at", .int (xs.length : Nat)), ("rows", .lst (rs.map dRow))]) :: (L + 3, P.cell ro) :: (L + 2, P.cell (some (.lst ((xs).map .str)))) :: (L + 1, P.cell (some (.lst (hv.map .str)))) :: H ∧ NInv rs hv xs xs.length) ⟨["$accept"], 0, none, rfl, NInv.start, rfl⟩ (fun m K hJ => ?_) fun K hZ => ?_
  · obtain ⟨xs, at_, ro, rfl, inv, rfl⟩ := hJ
    have hxl := inv.len
    refine ⟨decide (at_ < xs.length), (L, P.ns [("at", .int (at_ : Nat)), ("rows", .lst (rs.map dRow))]) :: (L + 3, P.cell ro) :: (L + 2, P.cell (some (.lst ((xs).map .str)))) :: (L + 1, P.cell (some (.lst (hv.map .str)))) :: H, ?_, fun hb => ?_, fun hb => ?_⟩
    · rw [show decide (at_ < xs.length) = decide ((at_ : Int) < ((xs.map D.str).length : Int)) from decide_eq_decide.mpr (by rw [List.length_map]; exact Int.ofNat_lt.symm)]
      apply ask_cmp
      rfl
      exact ev_local rfl rfl rfl
      apply call1
      rfl
      rfl
      rfl
      exact ev_builtin rfl rfl rfl boot_len
      first | exact .inl ⟨_, rfl⟩ | exact .inr (.inl ⟨_, rfl⟩) | exact .inr (.inr (by kernel_rfl))
      apply ev_cell
      rfl
      rfl
      rfl
      first | exact .head _ | exact .tail _ (.head _) | exact .tail _ (.tail _ (.head _)) | exact .tail _ (.tail _ (.tail _ (.head _))) | exact .tail _ (.tail _ (.tail _ (.tail _ (.head _)))) | exact .tail _ (.tail _ (.tail _ (.tail _ (.tail _ (.head _))))) | exact .tail _ (.tail _ (.tail _ (.tail _ (.tail _ (.tail _ (.head _))))))
      exact cd_len sq (by rw [List.length_map]; omega)
      exact op_lt
      rfl
    · have hlt : at_ < xs.length := of_decide_eq_true hb
      obtain ⟨y, hy⟩ : ∃ y, xs[at_]? = some y := ⟨_, List.getElem?_eq_getElem hlt⟩
      have hyr := inv.sound y (List.mem_of_getElem? hy)
      refine ex_for (Z := []) (H₁ := (L, P.ns [("at", .int (at_ : Nat)), ("rows", .lst (rs.map dRow))]) :: (L + 3, P.cell ro) :: (L + 2, P.cell (some (.lst ((xs).map .str)))) :: (L + 1, P.cell (some (.lst (hv.map .str)))) :: H) (items := rs.map dRow) rfl ?_ (fun j K => ∃ ro zs, K = (L, P.ns [("at", .int (at_ : Nat)), ("rows", .lst (rs.map dRow))]) :: (L + 3, P.cell ro) :: (L + 2, P.cell (some (.lst ((zs).map .str)))) :: (L + 1, P.cell (some (.lst (hv.map .str)))) :: H ∧ NIn rs hv xs y j zs) ⟨ro, xs, rfl, .start inv⟩ (fun _ => rfl) (fun T j K d hJ hd => ?_) fun K hJ => ?_
      · apply srcE (d := .lst (rs.map dRow))
        exact ev_local rfl rfl rfl
        exact src_list hB.hh fun _ _ => rfl
      · obtain ⟨ro, zs, rfl, hin⟩ := hJ
        obtain ⟨r, hr0, rfl⟩ := map_get hd
        have hrr := List.mem_of_getElem? hr0
        have hzok : SOk zs := fun x hx => (hin.sound x hx).sok hr
        have hzl : zs.length ≤ 4200 := Nat.le_trans (hin.nd.length_le_of_subset fun x hx => (hin.sound x hx).univ) hU
        have hyz : zs[at_]? = some y := by obtain ⟨t, rfl⟩ := hin.pre; rw [List.getElem?_append_left hlt]; exact hy
        have hz2 : zs.length + (r.r.zipIdx.filter fun q => !zs.contains q.1 && !(r.r.take q.2).contains q.1).length ≤ sizeLine := by
            have h1 := List.length_filter_le (fun q : Str × Nat => !zs.contains q.1 && !(r.r.take q.2).contains q.1) r.r.zipIdx
            rw [List.length_zipIdx] at h1
            have := hr.rz r hrr
            omega
        have hnx := hin.step hyr hr0
        refine ⟨_, Bnd.asg rfl (bnd_cell rfl rfl (.tail _ (.head _)) (Up.tail Up.head)), ?_⟩
        apply ex_if
        rfl
        apply ask_and
        rfl
        apply ask_cmp
        rfl
        apply ev_itemT (k := 0)
        rfl
        apply ev_cell
        rfl
        rfl
        rfl
        first | exact .head _ | exact .tail _ (.head _) | exact .tail _ (.tail _ (.head _)) | exact .tail _ (.tail _ (.tail _ (.head _))) | exact .tail _ (.tail _ (.tail _ (.tail _ (.head _)))) | exact .tail _ (.tail _ (.tail _ (.tail _ (.tail _ (.head _))))) | exact .tail _ (.tail _ (.tail _ (.tail _ (.tail _ (.tail _ (.head _))))))
        exact ev_int rfl
        exact sq
        rfl
        exact Nat.le_of_ble_eq_true rfl
        exact fun _ _ => rfl
        apply ev_item
        rfl
        apply ev_cell
        rfl
        rfl
        rfl
        first | exact .head _ | exact .tail _ (.head _) | exact .tail _ (.tail _ (.head _)) | exact .tail _ (.tail _ (.tail _ (.head _))) | exact .tail _ (.tail _ (.tail _ (.tail _ (.head _)))) | exact .tail _ (.tail _ (.tail _ (.tail _ (.tail _ (.head _))))) | exact .tail _ (.tail _ (.tail _ (.tail _ (.tail _ (.tail _ (.head _))))))
        exact ev_local rfl rfl rfl
        exact sq
        exact map_at hyz
        exact (by omega)
        exact fun _ _ => rfl
        exact op_eqS hB (hr.l r hrr) (hyr.sok hr)
        rfl
        intro hT1
        apply ask_cmp
        rfl
        apply ev_compF (r.r) (D.str) (D.str) (fun y => !hv.contains y)
        rfl
        exact ⟨rfl, rfl, rfl, rfl, fun _ => rfl⟩
        apply srcE (d := .tup (r.r.map .str))
        apply ev_itemT (k := 1)
        rfl
        apply ev_cell
        rfl
        rfl
        rfl
        first | exact .head _ | exact .tail _ (.head _) | exact .tail _ (.tail _ (.head _)) | exact .tail _ (.tail _ (.tail _ (.head _))) | exact .tail _ (.tail _ (.tail _ (.tail _ (.head _)))) | exact .tail _ (.tail _ (.tail _ (.tail _ (.tail _ (.head _))))) | exact .tail _ (.tail _ (.tail _ (.tail _ (.tail _ (.tail _ (.head _))))))
        exact ev_int rfl
        exact sq
        rfl
        exact Nat.le_of_ble_eq_true rfl
        exact fun _ _ => rfl
        exact src_tup hB.hh fun _ _ => rfl
        exact sz64 (hr.rz r hrr)
        · refine fun C T y2 hy2 => ⟨_, Bnd.asg rfl (bnd_local rfl (.head _) Up.head), ?_, fun hp => ?_⟩
          · apply ask_cmp
            rfl
            exact ev_local rfl rfl rfl
            apply ev_cell
            rfl
            rfl
            rfl
            first | exact .head _ | exact .tail _ (.head _) | exact .tail _ (.tail _ (.head _)) | exact .tail _ (.tail _ (.tail _ (.head _))) | exact .tail _ (.tail _ (.tail _ (.tail _ (.head _)))) | exact .tail _ (.tail _ (.tail _ (.tail _ (.tail _ (.head _))))) | exact .tail _ (.tail _ (.tail _ (.tail _ (.tail _ (.tail _ (.head _))))))
            exact op_notinS hB sq hs (hr.r r hrr y2 hy2)
            rfl
          · exact ev_local rfl rfl rfl
        exact ev_nil rfl
        exact op_eqNilS hB fun x hx => hr.r r hrr x (List.mem_filter.mp hx).1
        rfl
        exact fun _ => rfl
        · intro hT
          unfold nrow at hnx
          have hT2 : (r.l == y && allIn hv r) = true := hT
          rw [if_pos hT2] at hnx
          apply ex_assign
          rfl
          apply fun h => Ev.as h (show _ = D.lst ((zs ++ newOf zs r.r).map .str) by unfold newOf; rw [List.map_append, List.map_map])
          apply New.ev
          apply binop_new
          rfl
          apply ev_cell
          rfl
          rfl
          rfl
          first | exact .head _ | exact .tail _ (.head _) | exact .tail _ (.tail _ (.head _)) | exact .tail _ (.tail _ (.tail _ (.head _))) | exact .tail _ (.tail _ (.tail _ (.tail _ (.head _)))) | exact .tail _ (.tail _ (.tail _ (.tail _ (.tail _ (.head _))))) | exact .tail _ (.tail _ (.tail _ (.tail _ (.tail _ (.tail _ (.head _))))))
          apply ev_compF (r.r.zipIdx) (fun q => D.tup [.int (q.2 : Int), .str q.1]) (fun q => D.str q.1) (fun q => !zs.contains q.1 && !(r.r.take q.2).contains q.1)
          rfl
          exact ⟨rfl, rfl, rfl, rfl, fun _ => rfl⟩
          rw [← enum_map]
          apply srcE_enum_tuple hB.hh
          rfl
          rfl
          exact ev_builtin rfl rfl rfl boot_enumerate
          apply as_cons
          rfl
          rfl
          apply ev_itemT (k := 1)
          rfl
          apply ev_cell
          rfl
          rfl
          rfl
          first | exact .head _ | exact .tail _ (.head _) | exact .tail _ (.tail _ (.head _)) | exact .tail _ (.tail _ (.tail _ (.head _))) | exact .tail _ (.tail _ (.tail _ (.tail _ (.head _)))) | exact .tail _ (.tail _ (.tail _ (.tail _ (.tail _ (.head _))))) | exact .tail _ (.tail _ (.tail _ (.tail _ (.tail _ (.tail _ (.head _))))))
          exact ev_int rfl
          exact sq
          rfl
          exact Nat.le_of_ble_eq_true rfl
          exact fun _ _ => rfl
          exact as_nil
          exact (by rw [List.length_zipIdx]; exact sz64 (hr.rz r hrr))
          · refine fun C T q hq => ⟨_, asg_pair hB.hh rfl rfl (Bnd.asg rfl (bnd_local rfl (.head _) Up.head)) (Bnd.asg rfl (bnd_local rfl (.head _) Up.head)), ?_, fun hp => ?_⟩
            · apply ask_and
              rfl
              apply ask_cmp
              rfl
              exact ev_local rfl rfl rfl
              apply ev_cell
              rfl
              rfl
              rfl
              first | exact .head _ | exact .tail _ (.head _) | exact .tail _ (.tail _ (.head _)) | exact .tail _ (.tail _ (.tail _ (.head _))) | exact .tail _ (.tail _ (.tail _ (.tail _ (.head _)))) | exact .tail _ (.tail _ (.tail _ (.tail _ (.tail _ (.head _))))) | exact .tail _ (.tail _ (.tail _ (.tail _ (.tail _ (.tail _ (.head _))))))
              exact op_notinS hB sq hzok (hr.r r hrr q.1 (zip_mem hq))
              rfl
              intro hT2
              apply ask_cmp
              rfl
              exact ev_local rfl rfl rfl
              apply fun h => Ev.as h (show D.tup ((r.r.map D.str).take q.2) = D.tup ((r.r.take q.2).map D.str) by rw [List.map_take])
              apply ev_to
              rfl
              apply ev_itemT (k := 1)
              rfl
              apply ev_cell
              rfl
              rfl
              rfl
              first | exact .head _ | exact .tail _ (.head _) | exact .tail _ (.tail _ (.head _)) | exact .tail _ (.tail _ (.tail _ (.head _))) | exact .tail _ (.tail _ (.tail _ (.tail _ (.head _)))) | exact .tail _ (.tail _ (.tail _ (.tail _ (.tail _ (.head _))))) | exact .tail _ (.tail _ (.tail _ (.tail _ (.tail _ (.tail _ (.head _))))))
              exact ev_int rfl
              exact sq
              rfl
              exact Nat.le_of_ble_eq_true rfl
              exact fun _ _ => rfl
              exact ev_local rfl rfl rfl
              exact sq
              exact (by rw [List.length_map]; exact zip_lt hq)
              exact (by rw [List.length_map]; exact sz64 (hr.rz r hrr))
              exact op_notinTS hB (fun x hx => hr.r r hrr x (List.mem_of_mem_take hx)) (hr.r r hrr q.1 (zip_mem hq))
              rfl
              exact fun _ => rfl
            · exact ev_local rfl rfl rfl
          exact add_lists sq sq (by rw [List.length_map, List.length_map]; exact hz2)
          apply bnd_cell
          rfl
          rfl
          first | exact .head _ | exact .tail _ (.head _) | exact .tail _ (.tail _ (.head _)) | exact .tail _ (.tail _ (.tail _ (.head _))) | exact .tail _ (.tail _ (.tail _ (.tail _ (.head _)))) | exact .tail _ (.tail _ (.tail _ (.tail _ (.tail _ (.head _))))) | exact .tail _ (.tail _ (.tail _ (.tail _ (.tail _ (.tail _ (.head _))))))
          first | exact Up.head | exact Up.tail Up.head | exact Up.tail (Up.tail Up.head) | exact Up.tail (Up.tail (Up.tail Up.head)) | exact Up.tail (Up.tail (Up.tail (Up.tail Up.head))) | exact Up.tail (Up.tail (Up.tail (Up.tail (Up.tail Up.head)))) | exact Up.tail (Up.tail (Up.tail (Up.tail (Up.tail (Up.tail Up.head)))))
          rfl
          exact ex_end rfl (thn (ex_end rfl ⟨.inl rfl, (L, P.ns [("at", .int (at_ : Nat)), ("rows", .lst (rs.map dRow))]) :: (L + 3, P.cell (some (dRow r))) :: (L + 2, P.cell (some (.lst ((zs ++ newOf zs r.r).map .str)))) :: (L + 1, P.cell (some (.lst (hv.map .str)))) :: H, rfl, _, _, rfl, hnx⟩))
        · intro hF
          unfold nrow at hnx
          have hF2 : ¬ ((r.l == y && allIn hv r) = true) := fun h => Bool.noConfusion ((h.symm.trans hF : true = false))
          rw [if_neg hF2] at hnx
          exact ex_end rfl (thn (ex_end rfl ⟨.inl rfl, (L, P.ns [("at", .int (at_ : Nat)), ("rows", .lst (rs.map dRow))]) :: (L + 3, P.cell (some (dRow r))) :: (L + 2, P.cell (some (.lst ((zs).map .str)))) :: (L + 1, P.cell (some (.lst (hv.map .str)))) :: H, rfl, _, _, rfl, hnx⟩))
      · obtain ⟨ro, zs, rfl, hin⟩ := hJ
        rw [List.length_map] at hin
        have inv2 := hin.done inv hy
        have hl2 := inv2.len
        have hl3 := inv2.le
        apply ex_assign
        rfl
        apply ev_bin
        rfl
        exact ev_local rfl rfl rfl
        exact ev_int rfl
        exact op_add
        exact bnd_local rfl (.head _) Up.head
        rfl
        refine Ex.ns (m' := [("at", .int ((at_ + 1 : Nat) : Int)), ("rows", .lst (rs.map dRow))]) ?_ (nsk_cons rfl (nsk_cons rfl nsk_nil))
        exact ex_end rfl ⟨.inl rfl, _, by omega, zs, at_ + 1, ro, rfl, inv2, rfl⟩
    · have hle : xs.length ≤ at_ := Nat.le_of_not_lt (of_decide_eq_false hb)
      cases Nat.le_antisymm hle inv.le
      exact ⟨xs, ro, rfl, inv⟩
  · obtain ⟨xs, ro, rfl, inv⟩ := hZ
    refine ex_retQ (Q := fun d K => d = .lst (xs.map .str) ∧ K = (L, P.ns [("at", .int (xs.length : Nat)), ("rows", .lst (rs.map dRow))]) :: (L + 3, P.cell ro) :: (L + 2, P.cell (some (.lst ((xs).map .str)))) :: (L + 1, P.cell (some (.lst (hv.map .str)))) :: H) rfl (Ev.q ?_ ⟨rfl, rfl⟩) ?_
    · apply ev_cell
      rfl
      rfl
      rfl
      first | exact .head _ | exact .tail _ (.head _) | exact .tail _ (.tail _ (.head _)) | exact .tail _ (.tail _ (.tail _ (.head _))) | exact .tail _ (.tail _ (.tail _ (.tail _ (.head _)))) | exact .tail _ (.tail _ (.tail _ (.tail _ (.tail _ (.head _))))) | exact .tail _ (.tail _ (.tail _ (.tail _ (.tail _ (.tail _ (.head _))))))
    · rintro d K ⟨rfl, rfl⟩
      have := inv.len
      exact ⟨_, _, .inl rfl, .skip (.skip (.skip (.skip .rfl))), xs, rfl, rfl, by omega, (fun x hx => (inv.sound x hx).sok hr), fun x => inv.all⟩
end
end Mine
namespace Mine
noncomputable abbrev fdAF2 : FuncData := fdOf (inCls (topAt 3) 9) "Grammar." .none pmG 117
noncomputable abbrev fdLT : FuncData := fdOf (topAt 26) "" .none pmL 266
/-- whose item it is, where the dot stands, what stands behind it -/
noncomputable def own_at (g : Gram) (i : Nat) : Nat := g.owners.getD i 0
noncomputable def off_at (g : Gram) (i : Nat) : Nat := g.offsets.getD (own_at g i) 0
noncomputable def right_at (g : Gram) (i : Nat) : List Nat := ((g.rules[own_at g i]?).map fun r => r.right).getD []
noncomputable def dAft (g : Gram) (i : Nat) : D := if i - off_at g i < (right_at g i).length then dN ((right_at g i).getD (i - off_at g i) 0) else .int (-1)
noncomputable def dPlace (g : Gram) (i : Nat) : D := .tup [dN (own_at g i), .int (i - off_at g i), dAft g i]
noncomputable def dLine (r : RuleD) : D := .tup [dN r.num, .int r.line]
noncomputable def dToldAll (g : Gram) (X : Cx) : D := .tup [dToldG g, .lst (g.rules.map dLine), .lst ((List.range g.owners.length).map (dPlace g)), .lst ((List.range g.names.length).map fun x => .lst ((g.byLeft x).map dN))]
theorem own_spot : ∀ {rs : List RuleD} {n i : Nat}, i < (own rs).length → ∃ (k : Nat) (r : RuleD) (o : Nat), rs[k]? = some r ∧ (own rs)[i]? = some r.num ∧ (offs n rs)[k]? = some o ∧ n ≤ o ∧ o ≤ n + i ∧ n + i < o + (r.right.length + 1) := by
  intro rs
  induction rs with
  | nil => intro n i h; exact absurd h (Nat.not_lt_zero i)
  | cons r rs ih =>
    intro n i h
    have e : own (r :: rs) = List.replicate (r.right.length + 1) r.num ++ own rs := by unfold own; rw [List.flatMap_cons]
    rw [e] at h ⊢
    rw [List.length_append, List.length_replicate] at h
    by_cases hi : i < r.right.length + 1
    · refine ⟨0, r, n, rfl, ?_, rfl, Nat.le_refl _, by omega, by omega⟩
      rw [List.getElem?_append_left (by rw [List.length_replicate]; exact hi), List.getElem?_replicate, if_pos hi]
    · obtain ⟨k, q, o, h1, h2, h3, h4, h5, h6⟩ := ih (n := n + (r.right.length + 1)) (i := i - (r.right.length + 1)) (by omega)
      refine ⟨k + 1, q, o, h1, ?_, h3, by omega, by omega, by omega⟩
      rw [List.getElem?_append_right (by rw [List.length_replicate]; omega), List.length_replicate]
      exact h2
section
variable {X : Cx} {A : Around} {H : Hs} {n : Nat} {g : Gram}
theorem item_facts (hg : g.Ok) {i : Nat} (hi : i < g.owners.length) : g.owners[i]? = some (own_at g i) ∧ g.offsets[own_at g i]? = some (off_at g i) ∧ off_at g i ≤ i ∧ own_at g i < 64 ∧ ∃ r, g.rules[own_at g i]? = some r ∧ right_at g i = r.right ∧ r ∈ g.rules := by
  obtain ⟨k, r, o, h1, h2, h3, h4, h5, h6⟩ := own_spot (n := 0) (rs := g.rules) hi
  have hn := hg.num k r h1
  have e1 : own_at g i = k := by unfold own_at; rw [List.getD_eq_getElem?_getD]; show ((own g.rules)[i]?).getD 0 = k; rw [h2]; exact hn
  have e2 : off_at g i = o := by unfold off_at; rw [e1, List.getD_eq_getElem?_getD]; show ((offs 0 g.rules)[k]?).getD 0 = o; rw [h3]; rfl
  have hk : k < g.rules.length := (List.getElem?_eq_some_iff.mp h1).1
  refine ⟨?_, ?_, by omega, by have := hg.rz; omega, r, by rw [e1]; exact h1, ?_, List.mem_of_getElem? h1⟩
  · rw [e1]; show (own g.rules)[i]? = _; rw [h2, hn]
  · rw [e1, e2]; exact h3
  · unfold right_at; rw [e1, h1]; rfl
theorem w_after (hA : Rm A (n + 1)) (hg : g.Ok) {i : Nat} (hi : i < g.owners.length) (hz : g.owners.length ≤ 64) : Fn X A (.ref 118) [dGram X g, dN i] H (dAft g i) H := by
  obtain ⟨f1, f2, f3, f4, r, f5, f6, f7⟩ := item_facts hg hi
  refine fn_inC (fd := fdAF2) (c := 117) (ks := ["self", "item"]) (cn := []) (cs := fun n => []) (ds := [dGram X g, dN i]) rfl rfl rfl rfl hA.lt rfl (fun _ _ => rfl) rfl rfl (fun _ => rfl) (fun _ => rfl) fun L => ?_
  show Ex X _ _ ((L, P.ns [("self", dGram X g), ("item", dN i)]) :: H) _
  apply ex_assign
  rfl
  apply aR
  rfl
  rfl
  apply ev_item
  rfl
  exact lG rfl rfl rfl rfl
  apply ev_item
  rfl
  exact lG rfl rfl rfl rfl
  exact ev_local rfl rfl rfl
  exact sq
  exact map_at f1
  exact sz64 (by omega)
  exact fun _ _ => rfl
  exact sq
  exact map_at f5
  exact sz64 (by omega)
  exact fun _ _ => rfl
  rfl
  exact bnd_local rfl (.head _) Up.head
  rfl
  apply ex_assign
  rfl
  apply fun h => Ev.as h (show D.int ((i : Int) - (off_at g i : Int)) = D.int ((i - off_at g i : Nat) : Int) by rw [Int.ofNat_sub f3])
  apply ev_bin
  rfl
  exact ev_local rfl rfl rfl
  apply ev_item
  rfl
  exact lG rfl rfl rfl rfl
  apply ev_item
  rfl
  exact lG rfl rfl rfl rfl
  exact ev_local rfl rfl rfl
  exact sq
  exact map_at f1
  exact sz64 (by omega)
  exact fun _ _ => rfl
  exact sq
  exact map_at f2
  exact sz64 (by omega)
  exact fun _ _ => rfl
  exact op_sub
  exact bnd_local rfl (.head _) Up.head
  rfl
  apply ex_ret (d := dAft g i)
  rfl
  apply ev_if
  rfl
  apply ask_cmp
  rfl
  exact ev_local rfl rfl rfl
  apply call1
  rfl
  rfl
  rfl
  exact ev_builtin rfl rfl rfl boot_len
  first | exact .inl ⟨_, rfl⟩ | exact .inr (.inl ⟨_, rfl⟩) | exact .inr (.inr (by kernel_rfl))
  exact ev_local rfl rfl rfl
  exact cd_lenT sq (hg.right_sz f7)
  exact op_lt
  rfl
  · intro hT
    have hT2 : i - off_at g i < r.right.length := by have := of_decide_eq_true hT; rw [List.length_map] at this; exact Int.ofNat_lt.mp this
    have hx : (r.right.map dN)[i - off_at g i]? = some (dAft g i) := by unfold dAft; rw [f6, if_pos hT2]; exact map_at (by rw [List.getD_eq_getElem?_getD, List.getElem?_eq_getElem hT2]; rfl)
    apply ev_itemT
    rfl
    exact ev_local rfl rfl rfl
    exact ev_local rfl rfl rfl
    exact sq
    exact hx
    exact sz64 (by have := hg.lz r f7; omega)
    exact fun _ _ => rfl
  · intro hF
    have hF2 : ¬ (i - off_at g i < r.right.length) := fun h => by have := of_decide_eq_false hF; rw [List.length_map] at this; exact this (Int.ofNat_lt.mpr h)
    rw [show dAft g i = .int (-1) by unfold dAft; rw [f6, if_neg hF2]]
    apply ev_neg
    rfl
    exact ev_int rfl
  exact ⟨.inl rfl, .skip .rfl⟩
theorem w_toldAll (hA : Rm A (n + 3)) (hg : g.Ok) (hz : g.owners.length ≤ 64) : Fn X A (.ref 267) [dGram X g] H (dToldAll g X) H := by
  refine fn_inC (fd := fdLT) (c := 266) (ks := ["grammar"]) (cn := ["grammar"]) (cs := fun n => [("grammar", n)]) (ds := [dGram X g]) rfl rfl rfl rfl hA.lt rfl (fun _ => rfl) rfl rfl (fun _ => rfl) (fun _ => rfl) fun L => ?_
  show Ex X _ _ ((L, P.ns []) :: (L + 1, P.cell (some (dGram X g))) :: H) _
  have hB : Rm (A.deeper (callEnvC fdLT L 267)) (n + 2) := hA.deeper
  apply ex_compA (g.rules) (dRule) (dLine)
  rfl
  rfl
  exact ⟨rfl, rfl, rfl, rfl, fun _ => rfl⟩
  apply srcE (d := .lst (g.rules.map dRule))
  apply cG
  rfl
  rfl
  rfl
  first | exact .head _ | exact .tail _ (.head _) | exact .tail _ (.tail _ (.head _)) | exact .tail _ (.tail _ (.tail _ (.head _))) | exact .tail _ (.tail _ (.tail _ (.tail _ (.head _)))) | exact .tail _ (.tail _ (.tail _ (.tail _ (.tail _ (.head _))))) | exact .tail _ (.tail _ (.tail _ (.tail _ (.tail _ (.tail _ (.head _))))))
  rfl
  exact src_list hB.hh fun _ _ => rfl
  exact sz64 hg.rz
  · refine fun C T r hr => ⟨_, Bnd.asg rfl (bnd_local rfl (.head _) Up.head), ?_⟩
    apply ev_tup
    rfl
    apply as_cons
    rfl
    rfl
    exact lR rfl rfl rfl rfl
    apply as_cons
    rfl
    rfl
    exact lR rfl rfl rfl rfl
    exact as_nil
    rfl
  exact fun C => bnd_local rfl (.tail _ (.head _)) (Up.tail Up.head)
  rfl
  apply ex_compA (List.range g.owners.length) (fun j : Nat => D.int (j : Int)) (dPlace g)
  rfl
  rfl
  exact ⟨rfl, rfl, rfl, rfl, fun _ => rfl⟩
  rw [show (List.range (g.owners.length)).map (fun j : Nat => D.int (j : Int)) = upFrom 0 (g.owners.length) from upFrom0.symm]
  apply srcE (d := .rng 0 (g.owners.length : Nat))
  apply call1
  rfl
  rfl
  rfl
  exact ev_builtin rfl rfl rfl boot_range
  first | exact .inl ⟨_, rfl⟩ | exact .inr (.inl ⟨_, rfl⟩) | exact .inr (.inr (by kernel_rfl))
  apply cG
  rfl
  rfl
  rfl
  first | exact .head _ | exact .tail _ (.head _) | exact .tail _ (.tail _ (.head _)) | exact .tail _ (.tail _ (.tail _ (.head _))) | exact .tail _ (.tail _ (.tail _ (.tail _ (.head _)))) | exact .tail _ (.tail _ (.tail _ (.tail _ (.tail _ (.head _))))) | exact .tail _ (.tail _ (.tail _ (.tail _ (.tail _ (.tail _ (.head _))))))
  rfl
  exact cd_rangeN rfl
  exact src_range0 hB.hh (fun _ _ => rfl) hz
  exact (by rw [List.length_range]; exact sz64 hz)
  · refine fun C T i hi => ⟨_, Bnd.asg rfl (bnd_local rfl (.head _) Up.head), ?_⟩
    have hi2 := List.mem_range.mp hi
    obtain ⟨f1, f2, f3, f4, -⟩ := item_facts hg hi2
    apply ev_tup
    rfl
    apply as_cons
    rfl
    rfl
    apply ev_meth
    rfl
    apply ev_cell
    rfl
    rfl
    rfl
    first | exact .head _ | exact .tail _ (.head _) | exact .tail _ (.tail _ (.head _)) | exact .tail _ (.tail _ (.tail _ (.head _))) | exact .tail _ (.tail _ (.tail _ (.tail _ (.head _)))) | exact .tail _ (.tail _ (.tail _ (.tail _ (.tail _ (.head _))))) | exact .tail _ (.tail _ (.tail _ (.tail _ (.tail _ (.tail _ (.head _))))))
    exact meth_obj clsG rfl rfl rfl
    first | exact .inl ⟨_, rfl⟩ | exact .inr (.inl ⟨_, rfl⟩) | exact .inr (.inr (by kernel_rfl))
    apply as_cons
    rfl
    rfl
    exact ev_local rfl rfl rfl
    exact as_nil
    exact (w_rule_of (n := n + 1) hB f1 (sz64 (by omega))).call
    apply as_cons
    rfl
    rfl
    apply ev_meth
    rfl
    apply ev_cell
    rfl
    rfl
    rfl
    first | exact .head _ | exact .tail _ (.head _) | exact .tail _ (.tail _ (.head _)) | exact .tail _ (.tail _ (.tail _ (.head _))) | exact .tail _ (.tail _ (.tail _ (.tail _ (.head _)))) | exact .tail _ (.tail _ (.tail _ (.tail _ (.tail _ (.head _))))) | exact .tail _ (.tail _ (.tail _ (.tail _ (.tail _ (.tail _ (.head _))))))
    exact meth_obj clsG rfl rfl rfl
    first | exact .inl ⟨_, rfl⟩ | exact .inr (.inl ⟨_, rfl⟩) | exact .inr (.inr (by kernel_rfl))
    apply as_cons
    rfl
    rfl
    exact ev_local rfl rfl rfl
    exact as_nil
    exact (w_dot_of (n := n + 1) hB f1 (sz64 (by omega)) f2 (sz64 (by omega))).call
    apply as_cons
    rfl
    rfl
    apply ev_meth
    rfl
    apply ev_cell
    rfl
    rfl
    rfl
    first | exact .head _ | exact .tail _ (.head _) | exact .tail _ (.tail _ (.head _)) | exact .tail _ (.tail _ (.tail _ (.head _))) | exact .tail _ (.tail _ (.tail _ (.tail _ (.head _)))) | exact .tail _ (.tail _ (.tail _ (.tail _ (.tail _ (.head _))))) | exact .tail _ (.tail _ (.tail _ (.tail _ (.tail _ (.tail _ (.head _))))))
    exact meth_obj clsG rfl rfl rfl
    first | exact .inl ⟨_, rfl⟩ | exact .inr (.inl ⟨_, rfl⟩) | exact .inr (.inr (by kernel_rfl))
    apply as_cons
    rfl
    rfl
    exact ev_local rfl rfl rfl
    exact as_nil
    exact (w_after (n := n + 1) hB hg hi2 hz).call
    exact as_nil
    rfl
  exact fun C => bnd_local rfl (.tail _ (.head _)) (Up.tail Up.head)
  rfl
  apply ex_ret
  rfl
  apply ev_tup
  rfl
  apply as_cons
  rfl
  rfl
  apply call1
  rfl
  rfl
  rfl
  exact ev_global rfl rfl rfl
  first | exact .inl ⟨_, rfl⟩ | exact .inr (.inl ⟨_, rfl⟩) | exact .inr (.inr (by kernel_rfl))
  apply ev_cell
  rfl
  rfl
  rfl
  first | exact .head _ | exact .tail _ (.head _) | exact .tail _ (.tail _ (.head _)) | exact .tail _ (.tail _ (.tail _ (.head _))) | exact .tail _ (.tail _ (.tail _ (.tail _ (.head _)))) | exact .tail _ (.tail _ (.tail _ (.tail _ (.tail _ (.head _))))) | exact .tail _ (.tail _ (.tail _ (.tail _ (.tail _ (.tail _ (.head _))))))
  exact (w_told (n := n) hB hg).call
  apply as_cons
  rfl
  rfl
  exact ev_local rfl rfl rfl
  apply as_cons
  rfl
  rfl
  exact ev_local rfl rfl rfl
  apply as_cons
  rfl
  rfl
  apply ev_compA (List.range g.names.length) (fun j : Nat => D.int (j : Int)) (fun x => .lst ((g.byLeft x).map dN))
  rfl
  exact ⟨rfl, rfl, rfl, rfl, fun _ => rfl⟩
  rw [show (List.range (g.names.length)).map (fun j : Nat => D.int (j : Int)) = upFrom 0 (g.names.length) from upFrom0.symm]
  apply srcE (d := .rng 0 (g.names.length : Nat))
  apply call1
  rfl
  rfl
  rfl
  exact ev_builtin rfl rfl rfl boot_range
  first | exact .inl ⟨_, rfl⟩ | exact .inr (.inl ⟨_, rfl⟩) | exact .inr (.inr (by kernel_rfl))
  apply ev_meth
  rfl
  apply ev_cell
  rfl
  rfl
  rfl
  first | exact .head _ | exact .tail _ (.head _) | exact .tail _ (.tail _ (.head _)) | exact .tail _ (.tail _ (.tail _ (.head _))) | exact .tail _ (.tail _ (.tail _ (.tail _ (.head _)))) | exact .tail _ (.tail _ (.tail _ (.tail _ (.tail _ (.head _))))) | exact .tail _ (.tail _ (.tail _ (.tail _ (.tail _ (.tail _ (.head _))))))
  exact meth_obj clsG rfl rfl rfl
  first | exact .inl ⟨_, rfl⟩ | exact .inr (.inl ⟨_, rfl⟩) | exact .inr (.inr (by kernel_rfl))
  exact as_nil
  exact (w_symbol_count (n := n + 1) hB hg).call
  exact cd_rangeN rfl
  exact src_range0 hB.hh (fun _ _ => rfl) hg.nz
  exact (by rw [List.length_range]; exact sz64 hg.nz)
  · refine fun C T i hi => ⟨_, Bnd.asg rfl (bnd_local rfl (.head _) Up.head), ?_⟩
    apply ev_meth
    rfl
    apply ev_cell
    rfl
    rfl
    rfl
    first | exact .head _ | exact .tail _ (.head _) | exact .tail _ (.tail _ (.head _)) | exact .tail _ (.tail _ (.tail _ (.head _))) | exact .tail _ (.tail _ (.tail _ (.tail _ (.head _)))) | exact .tail _ (.tail _ (.tail _ (.tail _ (.tail _ (.head _))))) | exact .tail _ (.tail _ (.tail _ (.tail _ (.tail _ (.tail _ (.head _))))))
    exact meth_obj clsG rfl rfl rfl
    first | exact .inl ⟨_, rfl⟩ | exact .inr (.inl ⟨_, rfl⟩) | exact .inr (.inr (by kernel_rfl))
    apply as_cons
    rfl
    rfl
    exact ev_local rfl rfl rfl
    exact as_nil
    exact (w_rules_of (n := n + 1) hB hg (List.mem_range.mp hi)).call
  exact as_nil
  rfl
  exact ⟨.inl rfl, .skip (.skip .rfl)⟩
end
end Mine
namespace Mine
theorem range_set {α : Type} {f : Nat → α} {n k : Nat} {v : α} : ((List.range n).map f).set k v = (List.range n).map fun x => if x = k then v else f x := by
  refine List.ext_getElem? fun i => ?_
  rw [List.getElem?_set, List.getElem?_map, List.getElem?_map, List.length_map, List.length_range]
  by_cases hi : i < n
  · rw [List.getElem?_range hi, Option.map_some, Option.map_some]
    by_cases h : k = i
    · rw [if_pos h, if_pos (by omega), if_pos h.symm]
    · rw [if_neg h, if_neg (fun e => h e.symm)]
  · rw [List.getElem?_eq_none (by rw [List.length_range]; omega)]
    by_cases h : k = i
    · rw [if_pos h, if_neg (by omega)]; rfl
    · rw [if_neg h]; rfl
noncomputable def upd (f : Nat → Bool) (k : Nat) : Nat → Bool := fun x => if x = k then true else f x
inductive Prd (g : Gram) (kb : Nat → Bool) : Nat → Prop
  | base {x : Nat} (h : kb x = true) : Prd g kb x
  | rule {r : RuleD} (h : r ∈ g.rules) (a : ∀ y ∈ r.right, Prd g kb y) : Prd g kb r.left
noncomputable def un (kb : Nat → Bool) (ps : List Nat) (r : RuleD) : Nat := (r.right.filter fun s => !kb s && !ps.contains s).length
theorem un_zero {kb : Nat → Bool} {ps : List Nat} {r : RuleD} : un kb ps r = 0 ↔ ∀ y ∈ r.right, kb y = true ∨ y ∈ ps := by
  unfold un
  rw [List.length_eq_zero_iff, List.filter_eq_nil_iff]
  refine ⟨fun h y hy => ?_, fun h y hy => ?_⟩
  · have := h y hy
    rw [Bool.and_eq_true, not_and, Bool.not_eq_true', Bool.not_eq_true', Bool.not_eq_false, List.contains_iff_mem] at this
    cases hk : kb y with
    | true => exact .inl rfl
    | false => exact .inr (this hk)
  · rw [Bool.and_eq_true, not_and, Bool.not_eq_true', Bool.not_eq_true', Bool.not_eq_false, List.contains_iff_mem]
    intro hk
    exact (h y hy).elim (fun q => absurd (q.symm.trans hk) (by decide)) id
theorem un_snoc {kb : Nat → Bool} {ps : List Nat} {r : RuleD} {y : Nat} (hk : kb y = false) (hy : y ∉ ps) : un kb (ps ++ [y]) r + r.right.count y = un kb ps r := by
  unfold un
  generalize r.right = w
  induction w with
  | nil => rfl
  | cons s w ih =>
    rw [List.filter_cons, List.filter_cons, List.count_cons]
    by_cases h : s = y
    · subst h
      have h1 : (ps ++ [s]).contains s = true := List.contains_iff_mem.mpr (List.mem_append_right _ (.head _))
      have h2 : ps.contains s = false := by rw [← Bool.not_eq_true, List.contains_iff_mem]; exact hy
      rw [hk, h1, h2, beq_self_eq_true]
      simp only [Bool.not_true, Bool.not_false, Bool.and_true, Bool.true_and, if_true]
      rw [if_neg Bool.false_ne_true, List.length_cons]
      omega
    · have h1 : (ps ++ [y]).contains s = ps.contains s := by
        rw [Bool.eq_iff_iff, List.contains_iff_mem, List.contains_iff_mem, List.mem_append, List.mem_singleton]
        exact ⟨fun q => q.elim id fun e => absurd e h, .inl⟩
      rw [h1, beq_eq_false_iff_ne.mpr h, if_neg (show ¬ (false = true) from Bool.false_ne_true)]
      split
      · rw [List.length_cons, List.length_cons]; omega
      · exact ih
/-- who waits for y: a rule's number for each place of y in its right side -/
noncomputable def usOf (rs : List RuleD) (y : Nat) : List Nat := rs.flatMap fun r : RuleD => List.replicate (r.right.count y) r.num
theorem usOf_snoc {rs : List RuleD} {r : RuleD} {y : Nat} : usOf (rs ++ [r]) y = usOf rs y ++ List.replicate (r.right.count y) r.num := by
  unfold usOf; rw [List.flatMap_append]; simp
theorem usOf_count {g : Gram} (hg : g.Ok) {y i : Nat} : ∀ {j : Nat}, j ≤ g.rules.length → (usOf (g.rules.take j) y).count i = if i < j then ((g.rules[i]?).map fun r => r.right.count y).getD 0 else 0 := by
  intro j
  induction j with
  | zero => intro _; rfl
  | succ j ih =>
    intro hj
    have hr : g.rules[j]? = some g.rules[j] := List.getElem?_eq_getElem hj
    have hn := hg.num j _ hr
    rw [List.take_succ_eq_append_getElem hj, usOf_snoc, List.count_append, ih (Nat.le_of_lt hj), hn, List.count_replicate]
    by_cases h : i = j
    · subst h
      rw [if_neg (Nat.lt_irrefl _), if_pos (Nat.lt_succ_self _), hr, if_pos (beq_self_eq_true _), Nat.zero_add]; rfl
    · rw [beq_eq_false_iff_ne.mpr (Ne.symm h), if_neg Bool.false_ne_true, Nat.add_zero]
      by_cases h2 : i < j
      · rw [if_pos h2, if_pos (by omega)]
      · rw [if_neg h2, if_neg (by omega)]
theorem usOf_all {g : Gram} (hg : g.Ok) {y i : Nat} {r : RuleD} (h : g.rules[i]? = some r) : (usOf g.rules y).count i = r.right.count y := by
  have hi : i < g.rules.length := (List.getElem?_eq_some_iff.mp h).1
  have := usOf_count hg (y := y) (i := i) (Nat.le_refl g.rules.length)
  rw [List.take_length, if_pos hi, h] at this
  exact this
theorem usOf_rule {g : Gram} (hg : g.Ok) {y i : Nat} (h : i ∈ usOf g.rules y) : ∃ r, g.rules[i]? = some r ∧ y ∈ r.right := by
  unfold usOf at h
  obtain ⟨r, hr, hi⟩ := List.mem_flatMap.mp h
  obtain ⟨h1, rfl⟩ := List.mem_replicate.mp hi
  obtain ⟨k, hk⟩ := List.mem_iff_getElem?.mp hr
  exact ⟨r, by rw [hg.num k r hk]; exact hk, List.count_pos_iff.mp (Nat.pos_of_ne_zero h1)⟩
/-- what is found, and the queue -/
structure SInv (g : Gram) (kb fb : Nat → Bool) (qs : List Nat) : Prop where
  f : ∀ x, fb x = true ↔ kb x = true ∨ x ∈ qs
  nd : qs.Nodup
  nk : ∀ x ∈ qs, kb x = false
  lt : ∀ x ∈ qs, x < g.names.length
  sound : ∀ x, fb x = true → Prd g kb x
theorem SInv.push {g : Gram} {kb fb : Nat → Bool} {qs : List Nat} {l : Nat} (h : SInv g kb fb qs) (hl : fb l = false) (hlt : l < g.names.length) (hp : Prd g kb l) : SInv g kb (upd fb l) (qs ++ [l]) where
  f := fun x => by
    unfold upd
    rw [List.mem_append, List.mem_singleton]
    by_cases e : x = l
    · rw [if_pos e]; exact ⟨fun _ => .inr (.inr e), fun _ => rfl⟩
    · rw [if_neg e, h.f]; exact ⟨fun q => q.elim .inl fun q => .inr (.inl q), fun q => q.elim .inl fun q => q.elim .inr fun q => absurd q e⟩
  nd := by
    refine List.nodup_append.mpr ⟨h.nd, List.nodup_cons.mpr ⟨List.not_mem_nil, List.nodup_nil⟩, fun a ha b hb e => ?_⟩
    rw [List.mem_singleton] at hb
    subst hb e
    rw [(h.f a).mpr (.inr ha)] at hl; cases hl
  nk := fun x hx => by
    rcases List.mem_append.mp hx with hx | hx
    · exact h.nk x hx
    · rw [List.mem_singleton] at hx; subst hx
      cases hk : kb x with
      | false => rfl
      | true => rw [(h.f x).mpr (.inl hk)] at hl; cases hl
  lt := fun x hx => (List.mem_append.mp hx).elim (h.lt x) fun e => by rw [List.mem_singleton] at e; exact e ▸ hlt
  sound := fun x hx => by
    unfold upd at hx
    by_cases e : x = l
    · exact e ▸ hp
    · rw [if_neg e] at hx; exact h.sound x hx
theorem upd_true {f : Nat → Bool} {k x : Nat} (h : f x = true) : upd f k x = true := by
  unfold upd; split
  · rfl
  · exact h
theorem upd_self {f : Nat → Bool} {k : Nat} : upd f k k = true := if_pos rfl
/-- second part: rules that lack nothing from the start -/
structure S2 (g : Gram) (kb : Nat → Bool) (j : Nat) (fb : Nat → Bool) (qs : List Nat) : Prop where
  i : SInv g kb fb qs
  c : ∀ (k : Nat) r, k < j → g.rules[k]? = some r → un kb [] r = 0 → fb r.left = true
theorem S2.yes {g : Gram} (hg : g.Ok) {kb fb : Nat → Bool} {qs : List Nat} {j : Nat} {r : RuleD} (h : S2 g kb j fb qs) (hr : g.rules[j]? = some r) (h0 : un kb [] r = 0) (hf : fb r.left = false) : S2 g kb (j + 1) (upd fb r.left) (qs ++ [r.left]) where
  i := h.i.push hf (hg.left r (List.mem_of_getElem? hr)) (.rule (List.mem_of_getElem? hr) fun y hy => .base ((un_zero.mp h0 y hy).elim id fun q => (List.not_mem_nil q).elim))
  c := fun k q hk hq hz => by
    rcases Nat.lt_succ_iff_lt_or_eq.mp hk with hk | rfl
    · exact upd_true (h.c k q hk hq hz)
    · rw [hr] at hq; cases hq; exact upd_self
theorem S2.no {g : Gram} {kb fb : Nat → Bool} {qs : List Nat} {j : Nat} {r : RuleD} (h : S2 g kb j fb qs) (hr : g.rules[j]? = some r) (hn : un kb [] r = 0 → fb r.left = true) : S2 g kb (j + 1) fb qs where
  i := h.i
  c := fun k q hk hq hz => by
    rcases Nat.lt_succ_iff_lt_or_eq.mp hk with hk | rfl
    · exact h.c k q hk hq hz
    · rw [hr] at hq; cases hq; exact hn hz
/-- third part, between the turns of the outer loop -/
structure S3 (g : Gram) (kb : Nat → Bool) (at_ : Nat) (fb : Nat → Bool) (qs : List Nat) (lk : Nat → Nat) : Prop where
  i : SInv g kb fb qs
  le : at_ ≤ qs.length
  w : ∀ (i : Nat) r, g.rules[i]? = some r → lk i = un kb (qs.take at_) r
  c : ∀ (i : Nat) r, g.rules[i]? = some r → lk i = 0 → fb r.left = true
/-- third part, within: t of those that wait for y are told -/
structure S4 (g : Gram) (kb : Nat → Bool) (ps : List Nat) (y t : Nat) (fb : Nat → Bool) (qs : List Nat) (lk : Nat → Nat) : Prop where
  i : SInv g kb fb qs
  pre : ∃ u, qs = ps ++ y :: u
  w : ∀ (i : Nat) r, g.rules[i]? = some r → lk i + ((usOf g.rules y).take t).count i = un kb ps r
  c : ∀ (i : Nat) r, g.rules[i]? = some r → lk i = 0 → fb r.left = true
theorem take_count_le {l : List Nat} {t i : Nat} : (l.take t).count i ≤ l.count i := (List.take_sublist t l).count_le i
theorem S4.pos {g : Gram} (hg : g.Ok) {kb fb : Nat → Bool} {ps qs : List Nat} {y t i : Nat} {lk : Nat → Nat} (h : S4 g kb ps y t fb qs lk) (ht : (usOf g.rules y)[t]? = some i) : ∃ r, g.rules[i]? = some r ∧ 0 < lk i := by
  obtain ⟨r, hr, hy⟩ := usOf_rule hg (List.mem_of_getElem? ht)
  obtain ⟨u, hu⟩ := h.pre
  have hyq : y ∈ qs := by rw [hu]; exact List.mem_append_right _ (.head _)
  have hps : y ∉ ps := fun hp => by
    have nd := h.i.nd
    rw [hu, List.nodup_append] at nd
    exact nd.2.2 y hp y (.head _) rfl
  have h1 := h.w i r hr
  have h2 := un_snoc (r := r) (h.i.nk y hyq) hps
  have h3 := usOf_all hg (y := y) hr
  have hlt : t < (usOf g.rules y).length := (List.getElem?_eq_some_iff.mp ht).1
  have h4 : ((usOf g.rules y).take (t + 1)).count i = ((usOf g.rules y).take t).count i + 1 := by
    rw [List.take_succ_eq_append_getElem hlt, List.count_append, show (usOf g.rules y)[t] = i from (List.getElem?_eq_some_iff.mp ht).2]; simp
  have h5 := take_count_le (l := usOf g.rules y) (t := t + 1) (i := i)
  exact ⟨r, hr, by omega⟩
noncomputable def dec (lk : Nat → Nat) (k : Nat) : Nat → Nat := fun x => if x = k then lk k - 1 else lk x
theorem S4.step {g : Gram} (hg : g.Ok) {kb fb : Nat → Bool} {ps qs : List Nat} {y t i : Nat} {lk : Nat → Nat} {r : RuleD} (h : S4 g kb ps y t fb qs lk) (ht : (usOf g.rules y)[t]? = some i) (hr : g.rules[i]? = some r) :
    (∀ (k : Nat) q, g.rules[k]? = some q → dec lk i k + ((usOf g.rules y).take (t + 1)).count k = un kb ps q) ∧ (dec lk i i = 0 → Prd g kb r.left) := by
  obtain ⟨_, _, hpos⟩ := h.pos hg ht
  have hlt : t < (usOf g.rules y).length := (List.getElem?_eq_some_iff.mp ht).1
  have hk : ∀ (k : Nat) q, g.rules[k]? = some q → dec lk i k + ((usOf g.rules y).take (t + 1)).count k = un kb ps q := fun k q hq => by
    rw [List.take_succ_eq_append_getElem hlt, List.count_append, show (usOf g.rules y)[t] = i from (List.getElem?_eq_some_iff.mp ht).2, ← h.w k q hq]
    unfold dec
    by_cases e : k = i
    · subst e; rw [if_pos rfl]; simp; omega
    · rw [if_neg e, List.count_cons, List.count_nil, beq_eq_false_iff_ne.mpr (Ne.symm e), if_neg Bool.false_ne_true]; rfl
  refine ⟨hk, fun h0 => .rule (List.mem_of_getElem? hr) fun z hz => ?_⟩
  obtain ⟨u, hu⟩ := h.pre
  have hyq : y ∈ qs := by rw [hu]; exact List.mem_append_right _ (.head _)
  have hps : y ∉ ps := fun hp => by
    have nd := h.i.nd
    rw [hu, List.nodup_append] at nd
    exact nd.2.2 y hp y (.head _) rfl
  have h1 := hk i r hr
  have h2 := un_snoc (r := r) (h.i.nk y hyq) hps
  have h3 := usOf_all hg (y := y) hr
  have h5 := take_count_le (l := usOf g.rules y) (t := t + 1) (i := i)
  have h6 : un kb (ps ++ [y]) r = 0 := by omega
  rcases un_zero.mp h6 z hz with h7 | h7
  · exact .base h7
  · refine h.i.sound z ((h.i.f z).mpr (.inr ?_))
    rw [hu]
    rcases List.mem_append.mp h7 with h7 | h7
    · exact List.mem_append_left _ h7
    · rw [List.mem_singleton] at h7; rw [h7]; exact List.mem_append_right _ (.head _)
theorem S4.yes {g : Gram} (hg : g.Ok) {kb fb : Nat → Bool} {ps qs : List Nat} {y t i : Nat} {lk : Nat → Nat} {r : RuleD} (h : S4 g kb ps y t fb qs lk) (ht : (usOf g.rules y)[t]? = some i) (hr : g.rules[i]? = some r) (h0 : dec lk i i = 0) (hf : fb r.left = false) : S4 g kb ps y (t + 1) (upd fb r.left) (qs ++ [r.left]) (dec lk i) := by
  obtain ⟨s1, s2⟩ := h.step hg ht hr
  obtain ⟨u, hu⟩ := h.pre
  refine ⟨h.i.push hf (hg.left r (List.mem_of_getElem? hr)) (s2 h0), ⟨u ++ [r.left], by rw [hu, List.append_assoc]; rfl⟩, s1, fun k q hq hz => ?_⟩
  by_cases e : k = i
  · subst e; rw [hr] at hq; cases hq; exact upd_self
  · unfold dec at hz; rw [if_neg e] at hz; exact upd_true (h.c k q hq hz)
theorem S4.no {g : Gram} (hg : g.Ok) {kb fb : Nat → Bool} {ps qs : List Nat} {y t i : Nat} {lk : Nat → Nat} {r : RuleD} (h : S4 g kb ps y t fb qs lk) (ht : (usOf g.rules y)[t]? = some i) (hr : g.rules[i]? = some r) (hn : dec lk i i = 0 → fb r.left = true) : S4 g kb ps y (t + 1) fb qs (dec lk i) := by
  obtain ⟨s1, s2⟩ := h.step hg ht hr
  refine ⟨h.i, h.pre, s1, fun k q hq hz => ?_⟩
  by_cases e : k = i
  · subst e; rw [hr] at hq; cases hq; exact hn hz
  · unfold dec at hz; rw [if_neg e] at hz; exact h.c k q hq hz
theorem S3.go {g : Gram} {kb fb : Nat → Bool} {qs : List Nat} {lk : Nat → Nat} {k y : Nat} (h : S3 g kb k fb qs lk) (hy : qs[k]? = some y) : S4 g kb (qs.take k) y 0 fb qs lk where
  i := h.i
  pre := ⟨qs.drop (k + 1), by
    have hk : k < qs.length := (List.getElem?_eq_some_iff.mp hy).1
    have := List.take_append_drop k qs
    rw [List.drop_eq_getElem_cons hk, show qs[k] = y from (List.getElem?_eq_some_iff.mp hy).2] at this
    exact this.symm⟩
  w := fun i r hr => by rw [List.take_zero, List.count_nil, Nat.add_zero]; exact h.w i r hr
  c := h.c
theorem S4.back {g : Gram} (hg : g.Ok) {kb fb : Nat → Bool} {ps qs : List Nat} {lk : Nat → Nat} {y : Nat} (h : S4 g kb ps y (usOf g.rules y).length fb qs lk) : S3 g kb (ps.length + 1) fb qs lk := by
  obtain ⟨u, hu⟩ := h.pre
  have hyq : y ∈ qs := by rw [hu]; exact List.mem_append_right _ (.head _)
  have hps : y ∉ ps := fun hp => by
    have nd := h.i.nd
    rw [hu, List.nodup_append] at nd
    exact nd.2.2 y hp y (.head _) rfl
  have ht : qs.take (ps.length + 1) = ps ++ [y] := by rw [hu, List.take_append, List.take_of_length_le (Nat.le_succ _)]; simp
  refine ⟨h.i, by rw [hu]; simp, fun i r hr => ?_, h.c⟩
  have h1 := h.w i r hr
  rw [List.take_length, usOf_all hg hr] at h1
  have h2 := un_snoc (r := r) (h.i.nk y hyq) hps
  rw [ht]; omega
theorem S3.all {g : Gram} {kb fb : Nat → Bool} {qs : List Nat} {lk : Nat → Nat} (h : S3 g kb qs.length fb qs lk) {x : Nat} : fb x = true ↔ Prd g kb x := by
  refine ⟨h.i.sound x, fun hx => ?_⟩
  induction hx with
  | base hk => exact (h.i.f _).mpr (.inl hk)
  | @rule r hr a ih =>
    obtain ⟨i, hi⟩ := List.mem_iff_getElem?.mp hr
    refine h.c i r hi ?_
    rw [h.w i r hi, List.take_length, un_zero]
    exact fun y hy => (h.i.f y).mp (ih y hy)
end Mine
namespace Mine
noncomputable abbrev fdSP : FuncData := fdOf (topAt 11) "" .none pmA 186
noncomputable def bL (n : Nat) (fb : Nat → Bool) : List D := (List.range n).map fun x => D.bool (fb x)
noncomputable def nL (n : Nat) (lk : Nat → Nat) : List D := (List.range n).map fun x => dN (lk x)
noncomputable def u0 (g : Gram) (kb : Nat → Bool) (j s : Nat) : List Nat := if kb s = true then [] else usOf (g.rules.take j) s
noncomputable def u1 (g : Gram) (kb : Nat → Bool) (j t : Nat) (r : RuleD) (s : Nat) : List Nat := if kb s = true then [] else usOf (g.rules.take j) s ++ List.replicate ((r.right.take t).count s) r.num
noncomputable def uL (n : Nat) (f : Nat → List Nat) : List (List D) := (List.range n).map fun s => (f s).map dN
noncomputable def ms (kb : Nat → Bool) (w : List Nat) : Nat := (w.filter fun s => !kb s).length
theorem bL_at {n x : Nat} {fb : Nat → Bool} (h : x < n) : (bL n fb)[x]? = some (D.bool (fb x)) := range_at h
theorem nL_at {n x : Nat} {lk : Nat → Nat} (h : x < n) : (nL n lk)[x]? = some (dN (lk x)) := range_at h
theorem uL_at {n x : Nat} {f : Nat → List Nat} (h : x < n) : (uL n f)[x]? = some ((f x).map dN) := by unfold uL; rw [List.getElem?_map, List.getElem?_range h]; rfl
theorem bL_len {n : Nat} {fb : Nat → Bool} : (bL n fb).length = n := by unfold bL; rw [List.length_map, List.length_range]
theorem nL_len {n : Nat} {lk : Nat → Nat} : (nL n lk).length = n := by unfold nL; rw [List.length_map, List.length_range]
theorem uL_len {n : Nat} {f : Nat → List Nat} : (uL n f).length = n := by unfold uL; rw [List.length_map, List.length_range]
theorem bL_set {n k : Nat} {fb : Nat → Bool} : (bL n fb).set k (.bool true) = bL n (upd fb k) := by
  unfold bL
  rw [range_set]
  refine List.map_congr_left fun x _ => ?_
  unfold upd
  by_cases h : x = k
  · rw [if_pos h, if_pos h]
  · rw [if_neg h, if_neg h]
theorem nL_set {n k : Nat} {lk : Nat → Nat} : (nL n lk).set k (dN (lk k - 1)) = nL n (dec lk k) := by
  unfold nL
  rw [range_set]
  refine List.map_congr_left fun x _ => ?_
  unfold dec
  by_cases h : x = k
  · rw [if_pos h, if_pos h]
  · rw [if_neg h, if_neg h]
theorem uL_set {n k : Nat} {f f' : Nat → List Nat} {v : List D} (h1 : v = (f' k).map dN) (h2 : ∀ x, x ≠ k → f' x = f x) : (uL n f).set k v = uL n f' := by
  unfold uL
  rw [range_set]
  refine List.map_congr_left fun x _ => ?_
  by_cases h : x = k
  · rw [if_pos h, h1, h]
  · rw [if_neg h, h2 x h]
theorem u1_yes {g : Gram} {kb : Nat → Bool} {j t n : Nat} {r : RuleD} {s : Nat} (h : kb s = false) (ht : r.right[t]? = some s) : (uL n (u1 g kb j t r)).set s ((u1 g kb j t r s).map dN ++ [dN r.num]) = uL n (u1 g kb j (t + 1) r) := by
  have hlt : t < r.right.length := (List.getElem?_eq_some_iff.mp ht).1
  have e : r.right.take (t + 1) = r.right.take t ++ [s] := by rw [List.take_succ_eq_append_getElem hlt, show r.right[t] = s from (List.getElem?_eq_some_iff.mp ht).2]
  refine uL_set ?_ fun x hx => ?_
  · unfold u1
    rw [if_neg (by rw [h]; exact Bool.false_ne_true), if_neg (by rw [h]; exact Bool.false_ne_true), e, List.count_append]
    simp [List.replicate_succ']
  · unfold u1
    rw [e, List.count_append, List.count_cons, List.count_nil, beq_eq_false_iff_ne.mpr (Ne.symm hx), if_neg Bool.false_ne_true]; rfl
theorem u1_no {g : Gram} {kb : Nat → Bool} {j t n : Nat} {r : RuleD} {s : Nat} (h : kb s = true) (ht : r.right[t]? = some s) : uL n (u1 g kb j t r) = uL n (u1 g kb j (t + 1) r) := by
  have hlt : t < r.right.length := (List.getElem?_eq_some_iff.mp ht).1
  have e : r.right.take (t + 1) = r.right.take t ++ [s] := by rw [List.take_succ_eq_append_getElem hlt, show r.right[t] = s from (List.getElem?_eq_some_iff.mp ht).2]
  unfold uL
  refine List.map_congr_left fun x _ => ?_
  unfold u1
  by_cases hx : x = s
  · rw [hx, if_pos h, if_pos h]
  · rw [e, List.count_append, List.count_cons, List.count_nil, beq_eq_false_iff_ne.mpr (Ne.symm hx), if_neg Bool.false_ne_true]; rfl
theorem ms_yes {kb : Nat → Bool} {w : List Nat} {t s : Nat} (h : kb s = false) (ht : w[t]? = some s) : ms kb (w.take (t + 1)) = ms kb (w.take t) + 1 := by
  have hlt : t < w.length := (List.getElem?_eq_some_iff.mp ht).1
  unfold ms
  rw [List.take_succ_eq_append_getElem hlt, show w[t] = s from (List.getElem?_eq_some_iff.mp ht).2, List.filter_append, List.length_append]
  simp [h]
theorem ms_no {kb : Nat → Bool} {w : List Nat} {t s : Nat} (h : kb s = true) (ht : w[t]? = some s) : ms kb (w.take (t + 1)) = ms kb (w.take t) := by
  have hlt : t < w.length := (List.getElem?_eq_some_iff.mp ht).1
  unfold ms
  rw [List.take_succ_eq_append_getElem hlt, show w[t] = s from (List.getElem?_eq_some_iff.mp ht).2, List.filter_append, List.length_append]
  simp [h]
theorem ms_un {kb : Nat → Bool} {r : RuleD} : ms kb r.right = un kb [] r := by
  unfold ms un
  congr 1
  exact List.filter_congr fun x _ => by simp
theorem u1_zero {g : Gram} {kb : Nat → Bool} {j : Nat} {r : RuleD} : u1 g kb j 0 r = u0 g kb j := by
  funext s; unfold u1 u0; rw [List.take_zero, List.count_nil, List.replicate_zero, List.append_nil]
theorem u1_all {g : Gram} {kb : Nat → Bool} {j : Nat} {r : RuleD} (hr : g.rules[j]? = some r) : u1 g kb j r.right.length r = u0 g kb (j + 1) := by
  have hlt : j < g.rules.length := (List.getElem?_eq_some_iff.mp hr).1
  funext s
  unfold u1 u0
  rw [List.take_length, List.take_succ_eq_append_getElem hlt, show g.rules[j] = r from (List.getElem?_eq_some_iff.mp hr).2, usOf_snoc]
noncomputable def lk0 (g : Gram) (kb : Nat → Bool) (i : Nat) : Nat := ((g.rules[i]?).map (un kb [])).getD 0
theorem lk0_map {g : Gram} {kb : Nat → Bool} : (g.rules.map fun r => dN (un kb [] r)) = nL g.rules.length (lk0 g kb) := by
  unfold nL
  refine List.ext_getElem? fun i => ?_
  rw [List.getElem?_map, List.getElem?_map]
  by_cases h : i < g.rules.length
  · rw [List.getElem?_range h, List.getElem?_eq_getElem h]
    unfold lk0
    rw [Option.map_some, Option.map_some, List.getElem?_eq_getElem h]; rfl
  · rw [List.getElem?_eq_none (by omega), List.getElem?_eq_none (by rw [List.length_range]; omega)]; rfl
theorem usOf_le {rs : List RuleD} (h : ∀ r ∈ rs, r.right.length ≤ 64) {y : Nat} : (usOf rs y).length ≤ 64 * rs.length := by
  induction rs with
  | nil => exact Nat.le_refl _
  | cons r rs ih =>
    unfold usOf
    rw [List.flatMap_cons, List.length_append, List.length_replicate, List.length_cons]
    have := ih fun q hq => h q (List.mem_cons_of_mem _ hq)
    have := h r List.mem_cons_self
    have := List.count_le_length (a := y) (l := r.right)
    unfold usOf at *
    omega
noncomputable def prdB (g : Gram) (kb : Nat → Bool) (x : Nat) : Bool := @decide (Prd g kb x) (Classical.propDecidable _)
theorem prdB_iff {g : Gram} {kb : Nat → Bool} {x : Nat} : prdB g kb x = true ↔ Prd g kb x := @decide_eq_true_iff _ (Classical.propDecidable _)
section
variable {X : Cx} {A : Around} {H : Hs} {n : Nat} {g : Gram}
theorem s2_start {g : Gram} {kb : Nat → Bool} : S2 g kb 0 kb [] := ⟨⟨fun x => ⟨.inl, fun h => h.elim id fun h => (List.not_mem_nil h).elim⟩, List.nodup_nil, fun x h => (List.not_mem_nil h).elim, fun x h => (List.not_mem_nil h).elim, fun x h => .base h⟩, fun k r h => absurd h (Nat.not_lt_zero k)⟩
theorem SInv.qn {g : Gram} {kb fb : Nat → Bool} {qs : List Nat} (h : SInv g kb fb qs) (hg : g.Ok) : qs.length ≤ g.names.length := by
  have := h.nd.length_le_of_subset (l₂ := List.range g.names.length) fun x hx => List.mem_range.mpr (h.lt x hx)
  rwa [List.length_range] at this
theorem SInv.qz {g : Gram} {kb fb : Nat → Bool} {qs : List Nat} (h : SInv g kb fb qs) (hg : g.Ok) : qs.length ≤ sizeLine := sz64 (Nat.le_trans (h.qn hg) hg.nz)
theorem S2.s3 {g : Gram} {kb fb : Nat → Bool} {qs : List Nat} (h : S2 g kb g.rules.length fb qs) : S3 g kb 0 fb qs (lk0 g kb) := by
  have e : ∀ (i : Nat) r, g.rules[i]? = some r → lk0 g kb i = un kb [] r := fun i r hr => by unfold lk0; rw [hr]; rfl
  exact ⟨h.i, Nat.zero_le _, e, fun i r hr hz => h.c i r (List.getElem?_eq_some_iff.mp hr).1 hr (by rw [← e i r hr]; exact hz)⟩
theorem sp_freeze {L q fl la : Addr} {as : List Addr} {kb : Nat → Bool} {T : Hs} (hl : as.length = g.names.length) : Stp X ((L, P.ns [("queue", .ptr q), ("users", .lst (as.map D.ptr)), ("lacking", .ptr la), ("found", .ptr fl), ("grammar", dGram X g), ("known", .lst (bL g.names.length kb))]) :: (q, P.lst []) :: (fl, P.lst (bL g.names.length kb)) :: (la, P.lst (g.rules.map fun r => dN (un kb [] r))) :: (rowsH as (uL g.names.length (u0 g kb g.rules.length)) ++ T)) ((L, P.ns [("queue", .ptr q), ("users", .lst ((uL g.names.length (u0 g kb g.rules.length)).map .lst)), ("lacking", .ptr la), ("found", .ptr fl), ("grammar", dGram X g), ("known", .lst (bL g.names.length kb))]) :: (q, P.lst (([]).map dN)) :: (fl, P.lst (bL g.names.length (kb))) :: (la, P.lst (nL g.rules.length (lk0 g kb))) :: T) := fun F s S => by
  have S₁ := S.perm (H' := rowsH as (uL g.names.length (u0 g kb g.rules.length)) ++ ((L, P.ns [("queue", .ptr q), ("users", .lst (as.map D.ptr)), ("lacking", .ptr la), ("found", .ptr fl), ("grammar", dGram X g), ("known", .lst (bL g.names.length kb))]) :: (q, P.lst []) :: (fl, P.lst (bL g.names.length kb)) :: (la, P.lst (g.rules.map fun r => dN (un kb [] r))) :: T)) (by
    refine List.Perm.trans ?_ (List.perm_middle (l₁ := rowsH as _)).symm
    refine .cons _ (List.Perm.trans ?_ (List.perm_middle (l₁ := rowsH as _)).symm)
    refine .cons _ (List.Perm.trans ?_ (List.perm_middle (l₁ := rowsH as _)).symm)
    exact .cons _ (List.perm_middle (l₁ := rowsH as _)).symm)
  obtain ⟨F', le, S₂, r⟩ := St.rows (by rw [uL_len]; exact hl) S₁
  rw [lk0_map] at S₂
  exact ⟨F', le, S₂.put fun o h => NsIs.conv h (.cons (fun v h => h) (.cons (fun v h => lst_rows h .rfl r) (ConvL.mono .rfl)))⟩
theorem w_spread (hA : Rm A (n + 1)) (hg : g.Ok) {kb : Nat → Bool} : Fn X A (.ref 187) [dGram X g, .lst (bL g.names.length kb)] H (.lst (bL g.names.length (prdB g kb))) H := by
  refine fn_inC (fd := fdSP) (c := 186) (ks := ["grammar", "known"]) (cn := []) (cs := fun n => []) (ds := [dGram X g, .lst (bL g.names.length kb)]) rfl rfl rfl rfl hA.lt rfl (fun _ _ => rfl) rfl rfl (fun _ => rfl) (fun _ => rfl) fun L => ?_
  show Ex X _ _ ((L, P.ns [("grammar", dGram X g), ("known", .lst (bL g.names.length kb))]) :: H) _
  have hB : Rm (A.deeper (callEnvC fdSP L 187)) n := hA.deeper
  have hbz : ∀ fb, (bL g.names.length fb).length ≤ sizeLine := fun fb => by rw [bL_len]; exact sz64 hg.nz
  have h5 : 10000 ≤ sizeLine := by decide
  apply ex_newL
  rfl
  rfl
  apply new_call
  rfl
  exact ev_builtin rfl rfl rfl boot_list
  first | exact .inl ⟨_, rfl⟩ | exact .inr (.inl ⟨_, rfl⟩) | exact .inr (.inr (by kernel_rfl))
  apply as_cons
  rfl
  rfl
  exact ev_local rfl rfl rfl
  exact as_nil
  exact cn_list (.inl rfl) sq (hbz _)
  rfl
  intro fl
  apply ex_newL
  rfl
  rfl
  apply new_list
  rfl
  exact as_nil
  rfl
  rfl
  intro la
  refine ex_rows (m := [("lacking", .ptr la), ("found", .ptr fl), ("grammar", dGram X g), ("known", .lst (bL g.names.length kb))]) (Z := [(fl, P.lst (bL g.names.length kb))]) (K := (la, P.lst []) :: H) (items := bL g.names.length kb) rfl rfl ⟨rfl, rfl, rfl, rfl, fun _ => rfl⟩ (srcE_turning (ev_local rfl rfl rfl) ?_ hB.hh fun _ _ => rfl) (hbz _) (fun C T d K hd => ⟨_, Bnd.asg rfl (bnd_local rfl (.head _) Up.head)⟩) rfl rfl rfl fun as hl => ?_
  · exact (((List.Perm.swap ..).cons _).trans (List.Perm.swap ..))
  rw [bL_len] at hl ⊢
  apply ex_newL
  rfl
  rfl
  apply new_list
  rfl
  exact as_nil
  rfl
  rfl
  intro q
  refine Ex.step (Stp.perm (H' := (L, P.ns [("queue", .ptr q), ("users", .lst (as.map D.ptr)), ("lacking", .ptr la), ("found", .ptr fl), ("grammar", dGram X g), ("known", .lst (bL g.names.length kb))]) :: (q, P.lst []) :: (fl, P.lst (bL g.names.length kb)) :: (la, P.lst ([])) :: (rowsH as (uL g.names.length (u0 g kb 0)) ++ H)) ?_) ?_
  · rw [show uL g.names.length (u0 g kb 0) = List.replicate g.names.length [] from by unfold uL; rw [List.eq_replicate_iff]; refine ⟨by rw [List.length_map, List.length_range], fun b hb => ?_⟩; obtain ⟨x, _, rfl⟩ := List.mem_map.mp hb; unfold u0; split <;> rfl]
    exact ((List.perm_middle (l₁ := rowsH as _)).cons _ |>.cons _).cons _
  refine ex_for (Z := []) (H₁ := (L, P.ns [("queue", .ptr q), ("users", .lst (as.map D.ptr)), ("lacking", .ptr la), ("found", .ptr fl), ("grammar", dGram X g), ("known", .lst (bL g.names.length kb))]) :: (q, P.lst []) :: (fl, P.lst (bL g.names.length kb)) :: (la, P.lst ([])) :: (rowsH as (uL g.names.length (u0 g kb 0)) ++ H)) (items := g.rules.map dRule) rfl ?_ (fun j K => K = (L, P.ns [("queue", .ptr q), ("users", .lst (as.map D.ptr)), ("lacking", .ptr la), ("found", .ptr fl), ("grammar", dGram X g), ("known", .lst (bL g.names.length kb))]) :: (q, P.lst []) :: (fl, P.lst (bL g.names.length kb)) :: (la, P.lst ((g.rules.take j).map fun r => dN (un kb [] r))) :: (rowsH as (uL g.names.length (u0 g kb j)) ++ H)) rfl (fun _ => rfl) (fun T j K d hJ hd => ?_) fun K hJ => ?_
  · apply srcE (d := .lst (g.rules.map dRule))
    exact lG rfl rfl rfl rfl
    exact src_list hB.hh fun _ _ => rfl
  · subst hJ
    obtain ⟨r, hr, rfl⟩ := map_get hd
    have hm := List.mem_of_getElem? hr
    have hj : j < g.rules.length := (List.getElem?_eq_some_iff.mp hr).1
    have hlz : ((g.rules.take j).map fun r => dN (un kb [] r)).length ≤ sizeLine := by rw [List.length_map, List.length_take]; have := hg.rz; omega
    refine ⟨_, Bnd.asg rfl (bnd_local rfl (.head _) Up.head), ?_⟩
    apply ex_assign
    rfl
    exact ev_int rfl
    exact bnd_local rfl (.head _) Up.head
    rfl
    refine ex_for (Z := []) (H₁ := (L, P.ns [("missing", dN (ms kb (r.right.take (0)))), ("rule", dRule r), ("queue", .ptr q), ("users", .lst (as.map D.ptr)), ("lacking", .ptr la), ("found", .ptr fl), ("grammar", dGram X g), ("known", .lst (bL g.names.length kb))]) :: (q, P.lst []) :: (fl, P.lst (bL g.names.length kb)) :: (la, P.lst ((g.rules.take j).map fun r => dN (un kb [] r))) :: (rowsH as (uL g.names.length (u0 g kb j)) ++ (H ++ T))) (items := r.right.map dN) rfl ?_ (fun t K => K = (L, P.ns [("missing", dN (ms kb (r.right.take (t)))), ("rule", dRule r), ("queue", .ptr q), ("users", .lst (as.map D.ptr)), ("lacking", .ptr la), ("found", .ptr fl), ("grammar", dGram X g), ("known", .lst (bL g.names.length kb))]) :: (q, P.lst []) :: (fl, P.lst (bL g.names.length kb)) :: (la, P.lst ((g.rules.take j).map fun r => dN (un kb [] r))) :: (rowsH as (uL g.names.length (u1 g kb j t r)) ++ (H ++ T))) (by rw [u1_zero]) (fun _ => rfl) (fun T2 t K d hJ hd => ?_) fun K hJ => ?_
    · rw [← List.append_assoc]
      apply srcE (d := .tup (r.right.map dN))
      exact lR rfl rfl rfl rfl
      exact src_tup hB.hh fun _ _ => rfl
    · subst hJ
      obtain ⟨s, hs0, rfl⟩ := map_get hd
      have hs := hg.right r hm s (List.mem_of_getElem? hs0)
      obtain ⟨a, ha⟩ : ∃ a, as[s]? = some a := ⟨_, List.getElem?_eq_getElem (hl ▸ hs)⟩
      have huz : (u1 g kb j t r s).length ≤ sizeLine := by
          have h1 := usOf_le (rs := g.rules.take j) (fun q hq => hg.lz q (List.mem_of_mem_take hq)) (y := s)
          have h2 := List.count_le_length (a := s) (l := r.right.take t)
          have h3 := hg.lz r hm
          have h4 := hg.rz
          rw [List.length_take] at h1 h2
          unfold u1; split
          · exact Nat.zero_le _
          · rw [List.length_append, List.length_replicate]; omega
      refine ⟨_, Bnd.asg rfl (bnd_local rfl (.head _) Up.head), ?_⟩
      apply ex_if
      rfl
      apply ask_not
      rfl
      apply ask_plain
      apply ev_item
      rfl
      exact ev_local rfl rfl rfl
      exact ev_local rfl rfl rfl
      exact sqP (.tail _ (.tail _ (.head _)))
      exact bL_at hs
      exact sz64 (Nat.le_of_lt (Nat.lt_of_lt_of_le hs hg.nz))
      exact fun _ _ => rfl
      exact fun _ => rfl
      · intro hT
        have hk : kb s = false := by cases h : kb s <;> rw [h] at hT <;> first | rfl | cases hT
        apply ex_assign
        rfl
        apply ev_bin
        rfl
        exact ev_local rfl rfl rfl
        exact ev_int rfl
        exact op_add
        exact bnd_local rfl (.head _) Up.head
        rfl
        apply ex_expr
        rfl
        apply ev_meth
        rfl
        apply ev_item
        rfl
        exact ev_local rfl rfl rfl
        exact ev_local rfl rfl rfl
        exact sq
        exact rows_get ha
        exact sz64 (Nat.le_of_lt (Nat.lt_of_lt_of_le hs hg.nz))
        exact fun _ _ => rfl
        exact m_append (sqP (by first | exact .tail _ (.tail _ (.tail _ (.tail _ (List.mem_append_left _ (List.mem_append_left _ (rowsH_mem ha (uL_at hs))))))) | exact .tail _ (.tail _ (.tail _ (.tail _ (List.mem_append_left _ (rowsH_mem ha (uL_at hs))))))))
        first | exact .inl ⟨_, rfl⟩ | exact .inr (.inl ⟨_, rfl⟩) | exact .inr (.inr (by kernel_rfl))
        apply as_cons
        rfl
        rfl
        exact lR rfl rfl rfl rfl
        exact as_nil
        exact cd_append (by first | exact .tail _ (.tail _ (.tail _ (.tail _ (List.mem_append_left _ (List.mem_append_left _ (rowsH_mem ha (uL_at hs))))))) | exact .tail _ (.tail _ (.tail _ (.tail _ (List.mem_append_left _ (rowsH_mem ha (uL_at hs))))))) (by first | exact Up.tail (Up.tail (Up.tail (Up.tail (Up.appL (Up.appL (rowsH_up ha (uL_at hs))))))) | exact Up.tail (Up.tail (Up.tail (Up.tail (Up.appL (rowsH_up ha (uL_at hs))))))) (by rw [List.length_map]; exact huz)
        rfl
        rfl
        refine ex_end rfl (thn ?_)
        refine Ex.ns (m' := [("missing", dN (ms kb (r.right.take (t + 1)))), ("rule", dRule r), ("queue", .ptr q), ("users", .lst (as.map D.ptr)), ("lacking", .ptr la), ("found", .ptr fl), ("grammar", dGram X g), ("known", .lst (bL g.names.length kb))]) ?_ (by rw [ms_yes hk hs0]; exact (nsk_cons rfl (nsk_cons rfl (nsk_cons rfl (nsk_cons rfl (nsk_cons rfl (nsk_cons rfl (nsk_cons rfl (nsk_cons rfl nsk_nil)))))))))
        refine ex_end rfl ⟨.inl rfl, (L, P.ns [("missing", dN (ms kb (r.right.take (t + 1)))), ("rule", dRule r), ("queue", .ptr q), ("users", .lst (as.map D.ptr)), ("lacking", .ptr la), ("found", .ptr fl), ("grammar", dGram X g), ("known", .lst (bL g.names.length kb))]) :: (q, P.lst []) :: (fl, P.lst (bL g.names.length kb)) :: (la, P.lst ((g.rules.take j).map fun r => dN (un kb [] r))) :: (rowsH as (uL g.names.length (u1 g kb j (t + 1) r)) ++ (H ++ T)), ?_, rfl⟩
        rw [← u1_yes hk hs0]
        rfl
      · intro hF
        have hk : kb s = true := by cases h : kb s <;> rw [h] at hF <;> first | rfl | cases hF
        refine ex_end rfl (thn ?_)
        refine Ex.ns (m' := [("missing", dN (ms kb (r.right.take (t + 1)))), ("rule", dRule r), ("queue", .ptr q), ("users", .lst (as.map D.ptr)), ("lacking", .ptr la), ("found", .ptr fl), ("grammar", dGram X g), ("known", .lst (bL g.names.length kb))]) ?_ (by rw [ms_no hk hs0]; exact (nsk_cons rfl (nsk_cons rfl (nsk_cons rfl (nsk_cons rfl (nsk_cons rfl (nsk_cons rfl (nsk_cons rfl (nsk_cons rfl nsk_nil)))))))))
        refine ex_end rfl ⟨.inl rfl, (L, P.ns [("missing", dN (ms kb (r.right.take (t + 1)))), ("rule", dRule r), ("queue", .ptr q), ("users", .lst (as.map D.ptr)), ("lacking", .ptr la), ("found", .ptr fl), ("grammar", dGram X g), ("known", .lst (bL g.names.length kb))]) :: (q, P.lst []) :: (fl, P.lst (bL g.names.length kb)) :: (la, P.lst ((g.rules.take j).map fun r => dN (un kb [] r))) :: (rowsH as (uL g.names.length (u1 g kb j (t + 1) r)) ++ (H ++ T)), ?_, rfl⟩
        rw [← u1_no hk hs0]
        rfl
    · subst hJ
      rw [List.length_map, List.take_length, ms_un, u1_all hr]
      apply ex_expr
      rfl
      apply ev_meth
      rfl
      exact ev_local rfl rfl rfl
      exact m_append (sqP (.tail _ (.tail _ (.tail _ (.head _)))))
      first | exact .inl ⟨_, rfl⟩ | exact .inr (.inl ⟨_, rfl⟩) | exact .inr (.inr (by kernel_rfl))
      apply as_cons
      rfl
      rfl
      exact ev_local rfl rfl rfl
      exact as_nil
      exact cd_append (.tail _ (.tail _ (.tail _ (.head _)))) (Up.tail (Up.tail (Up.tail Up.head))) hlz
      rfl
      rfl
      refine Ex.ns (m' := [("queue", .ptr q), ("users", .lst (as.map D.ptr)), ("lacking", .ptr la), ("found", .ptr fl), ("grammar", dGram X g), ("known", .lst (bL g.names.length kb))]) ?_ (nsk_cons rfl (nsk_cons rfl (nsk_cons rfl (nsk_cons rfl (nsk_cons rfl (nsk_cons rfl nsk_nil))))))
      refine ex_end rfl ⟨.inl rfl, (L, P.ns [("queue", .ptr q), ("users", .lst (as.map D.ptr)), ("lacking", .ptr la), ("found", .ptr fl), ("grammar", dGram X g), ("known", .lst (bL g.names.length kb))]) :: (q, P.lst []) :: (fl, P.lst (bL g.names.length kb)) :: (la, P.lst ((g.rules.take (j + 1)).map fun r => dN (un kb [] r))) :: (rowsH as (uL g.names.length (u0 g kb (j + 1))) ++ H), ?_, rfl⟩
      rw [List.take_succ_eq_append_getElem hj, show g.rules[j] = r from (List.getElem?_eq_some_iff.mp hr).2, List.map_append]
      simp only [List.cons_append, List.append_assoc, List.map_cons, List.map_nil]
      rfl
  · subst hJ
    rw [List.length_map, List.take_length]
    refine Ex.step (sp_freeze hl) ?_
    refine ex_for (Z := []) (H₁ := (L, P.ns [("queue", .ptr q), ("users", .lst ((uL g.names.length (u0 g kb g.rules.length)).map .lst)), ("lacking", .ptr la), ("found", .ptr fl), ("grammar", dGram X g), ("known", .lst (bL g.names.length kb))]) :: (q, P.lst (([]).map dN)) :: (fl, P.lst (bL g.names.length (kb))) :: (la, P.lst (nL g.rules.length (lk0 g kb))) :: H) (items := g.rules.map dRule) rfl ?_ (fun j K => ∃ fb qs, K = (L, P.ns [("queue", .ptr q), ("users", .lst ((uL g.names.length (u0 g kb g.rules.length)).map .lst)), ("lacking", .ptr la), ("found", .ptr fl), ("grammar", dGram X g), ("known", .lst (bL g.names.length kb))]) :: (q, P.lst ((qs).map dN)) :: (fl, P.lst (bL g.names.length (fb))) :: (la, P.lst (nL g.rules.length (lk0 g kb))) :: H ∧ S2 g kb j fb qs) ⟨kb, [], rfl, s2_start⟩ (fun _ => rfl) (fun T j K d hJ hd => ?_) fun K hJ => ?_
    · apply srcE (d := .lst (g.rules.map dRule))
      exact lG rfl rfl rfl rfl
      exact src_list hB.hh fun _ _ => rfl
    · obtain ⟨fb, qs, rfl, inv⟩ := hJ
      obtain ⟨r, hr, rfl⟩ := map_get hd
      have hm := List.mem_of_getElem? hr
      have hj : j < g.rules.length := (List.getElem?_eq_some_iff.mp hr).1
      have hn := hg.num j r hr
      have hlt := hg.left r hm
      have hnz := hg.nz
      have hrz := hg.rz
      have hl0 : lk0 g kb r.num = un kb [] r := by unfold lk0; rw [hn, hr]; rfl
      have hqz := inv.i.qz hg
      refine ⟨_, Bnd.asg rfl (bnd_local rfl (.head _) Up.head), ?_⟩
      apply ex_if
      rfl
      apply ask_and
      rfl
      apply ask_cmp
      rfl
      apply ev_item
      rfl
      exact ev_local rfl rfl rfl
      exact lR rfl rfl rfl rfl
      exact sqP (.tail _ (.tail _ (.tail _ (.head _))))
      exact nL_at (hn ▸ hj)
      exact (by rw [hn]; exact sz64 (by omega))
      exact fun _ _ => rfl
      exact ev_int rfl
      exact op_eqi
      rfl
      intro hT1
      apply ask_not
      rfl
      apply ask_plain
      apply ev_item
      rfl
      exact ev_local rfl rfl rfl
      exact lR rfl rfl rfl rfl
      exact sqP (.tail _ (.tail _ (.head _)))
      exact bL_at hlt
      exact sz64 (by omega)
      exact fun _ _ => rfl
      exact fun _ => rfl
      exact fun _ => rfl
      · intro hT
        rw [Bool.and_eq_true, beq_iff_eq] at hT
        have h0 : un kb [] r = 0 := by rw [← hl0]; exact Int.ofNat_inj.mp hT.1
        have hf : fb r.left = false := by have := hT.2; cases h : fb r.left <;> rw [h] at this <;> first | rfl | cases this
        apply ex_setitem
        rfl
        exact ev_bool rfl
        exact ev_local rfl rfl rfl
        exact lR rfl rfl rfl rfl
        exact .tail _ (.tail _ (.head _))
        exact (by rw [bL_len]; exact hlt)
        exact sz64 (by omega)
        exact Up.tail (Up.tail Up.head)
        rfl
        apply ex_expr
        rfl
        apply ev_meth
        rfl
        exact ev_local rfl rfl rfl
        exact m_append (sqP (.tail _ (.head _)))
        first | exact .inl ⟨_, rfl⟩ | exact .inr (.inl ⟨_, rfl⟩) | exact .inr (.inr (by kernel_rfl))
        apply as_cons
        rfl
        rfl
        exact lR rfl rfl rfl rfl
        exact as_nil
        exact cd_append (.tail _ (.head _)) (Up.tail Up.head) (by rw [List.length_map]; exact hqz)
        rfl
        rfl
        refine ex_end rfl (thn ?_)
        refine Ex.ns (m' := [("queue", .ptr q), ("users", .lst ((uL g.names.length (u0 g kb g.rules.length)).map .lst)), ("lacking", .ptr la), ("found", .ptr fl), ("grammar", dGram X g), ("known", .lst (bL g.names.length kb))]) ?_ (nsk_cons rfl (nsk_cons rfl (nsk_cons rfl (nsk_cons rfl (nsk_cons rfl (nsk_cons rfl nsk_nil))))))
        refine ex_end rfl ⟨.inl rfl, (L, P.ns [("queue", .ptr q), ("users", .lst ((uL g.names.length (u0 g kb g.rules.length)).map .lst)), ("lacking", .ptr la), ("found", .ptr fl), ("grammar", dGram X g), ("known", .lst (bL g.names.length kb))]) :: (q, P.lst ((qs ++ [r.left]).map dN)) :: (fl, P.lst (bL g.names.length (upd fb r.left))) :: (la, P.lst (nL g.rules.length (lk0 g kb))) :: H, ?_, _, _, rfl, inv.yes hg hr h0 hf⟩
        rw [bL_set, List.map_append]
        rfl
      · intro hF
        have hn0 : un kb [] r = 0 → fb r.left = true := fun h => by
            rw [← hl0] at h
            rw [h] at hF
            cases hq : fb r.left with
            | true => rfl
            | false => rw [hq] at hF; cases hF
        refine ex_end rfl (thn ?_)
        refine Ex.ns (m' := [("queue", .ptr q), ("users", .lst ((uL g.names.length (u0 g kb g.rules.length)).map .lst)), ("lacking", .ptr la), ("found", .ptr fl), ("grammar", dGram X g), ("known", .lst (bL g.names.length kb))]) ?_ (nsk_cons rfl (nsk_cons rfl (nsk_cons rfl (nsk_cons rfl (nsk_cons rfl (nsk_cons rfl nsk_nil))))))
        exact ex_end rfl ⟨.inl rfl, (L, P.ns [("queue", .ptr q), ("users", .lst ((uL g.names.length (u0 g kb g.rules.length)).map .lst)), ("lacking", .ptr la), ("found", .ptr fl), ("grammar", dGram X g), ("known", .lst (bL g.names.length kb))]) :: (q, P.lst ((qs).map dN)) :: (fl, P.lst (bL g.names.length (fb))) :: (la, P.lst (nL g.rules.length (lk0 g kb))) :: H, rfl, _, _, rfl, inv.no hr hn0⟩
    · obtain ⟨fb, qs, rfl, inv⟩ := hJ
      rw [List.length_map] at inv
      apply ex_assign
      rfl
      exact ev_int rfl
      exact bnd_local rfl (.head _) Up.head
      rfl
      refine ex_while rfl (fun m K => ∃ at_ fb qs lk, K = (L, P.ns [("at", .int (at_ : Nat)), ("queue", .ptr q), ("users", .lst ((uL g.names.length (u0 g kb g.rules.length)).map .lst)), ("lacking", .ptr la), ("found", .ptr fl), ("grammar", dGram X g), ("known", .lst (bL g.names.length kb))]) :: (q, P.lst ((qs).map dN)) :: (fl, P.lst (bL g.names.length (fb))) :: (la, P.lst (nL g.rules.length (lk))) :: H ∧ S3 g kb at_ fb qs lk ∧ m = g.names.length + 1 - at_) (fun K => ∃ fb qs lk, K = (L, P.ns [("at", .int (qs.length : Nat)), ("queue", .ptr q), ("users", .lst ((uL g.names.length (u0 g kb g.rules.length)).map .lst)), ("lacking", .ptr la), ("found", .ptr fl), ("grammar", dGram X g), ("known", .lst (bL g.names.length kb))]) :: (q, P.lst ((qs).map dN)) :: (fl, P.lst (bL g.names.length (fb))) :: (la, P.lst (nL g.rules.length (lk))) :: H ∧ S3 g kb qs.length fb qs lk) ⟨0, fb, qs, lk0 g kb, rfl, inv.s3, rfl⟩ (fun m K hJ => ?_) fun K hZ => ?_
      · obtain ⟨at_, fb, qs, lk, rfl, inv, rfl⟩ := hJ
        have hqn := inv.i.qn hg
        have hqz := inv.i.qz hg
        refine ⟨decide (at_ < qs.length), (L, P.ns [("at", .int (at_ : Nat)), ("queue", .ptr q), ("users", .lst ((uL g.names.length (u0 g kb g.rules.length)).map .lst)), ("lacking", .ptr la), ("found", .ptr fl), ("grammar", dGram X g), ("known", .lst (bL g.names.length kb))]) :: (q, P.lst ((qs).map dN)) :: (fl, P.lst (bL g.names.length (fb))) :: (la, P.lst (nL g.rules.length (lk))) :: H, ?_, fun hb => ?_, fun hb => ?_⟩
        · rw [show decide (at_ < qs.length) = decide ((at_ : Int) < ((qs.map dN).length : Int)) from decide_eq_decide.mpr (by rw [List.length_map]; exact Int.ofNat_lt.symm)]
          apply ask_cmp
          rfl
          exact ev_local rfl rfl rfl
          apply call1
          rfl
          rfl
          rfl
          exact ev_builtin rfl rfl rfl boot_len
          first | exact .inl ⟨_, rfl⟩ | exact .inr (.inl ⟨_, rfl⟩) | exact .inr (.inr (by kernel_rfl))
          exact ev_local rfl rfl rfl
          exact cd_len (sqP (.tail _ (.head _))) (by rw [List.length_map]; exact hqz)
          exact op_lt
          rfl
        · have hlt : at_ < qs.length := of_decide_eq_true hb
          obtain ⟨y, hy⟩ : ∃ y, qs[at_]? = some y := ⟨_, List.getElem?_eq_getElem hlt⟩
          have hyq := List.mem_of_getElem? hy
          have hyn := inv.i.lt y hyq
          have huy : u0 g kb g.rules.length y = usOf g.rules y := by unfold u0; rw [if_neg (by rw [inv.i.nk y hyq]; exact Bool.false_ne_true), List.take_length]
          refine ex_for (Z := []) (H₁ := (L, P.ns [("at", .int (at_ : Nat)), ("queue", .ptr q), ("users", .lst ((uL g.names.length (u0 g kb g.rules.length)).map .lst)), ("lacking", .ptr la), ("found", .ptr fl), ("grammar", dGram X g), ("known", .lst (bL g.names.length kb))]) :: (q, P.lst ((qs).map dN)) :: (fl, P.lst (bL g.names.length (fb))) :: (la, P.lst (nL g.rules.length (lk))) :: H) (items := (usOf g.rules y).map dN) rfl ?_ (fun t K => ∃ fb qs2 lk, K = (L, P.ns [("at", .int (at_ : Nat)), ("queue", .ptr q), ("users", .lst ((uL g.names.length (u0 g kb g.rules.length)).map .lst)), ("lacking", .ptr la), ("found", .ptr fl), ("grammar", dGram X g), ("known", .lst (bL g.names.length kb))]) :: (q, P.lst ((qs2).map dN)) :: (fl, P.lst (bL g.names.length (fb))) :: (la, P.lst (nL g.rules.length (lk))) :: H ∧ S4 g kb (qs.take at_) y t fb qs2 lk) ⟨fb, qs, lk, rfl, inv.go hy⟩ (fun _ => rfl) (fun T t K d hJ hd => ?_) fun K hJ => ?_
          · rw [← huy]
            apply srcE (d := .lst ((u0 g kb g.rules.length y).map dN))
            apply ev_item
            rfl
            exact ev_local rfl rfl rfl
            apply ev_item
            rfl
            exact ev_local rfl rfl rfl
            exact ev_local rfl rfl rfl
            exact sqP (.tail _ (.head _))
            exact map_at hy
            exact sz64 (by have := hg.nz; omega)
            exact fun _ _ => rfl
            exact sq
            exact map_at (f := D.lst) (uL_at hyn)
            exact sz64 (by have := hg.nz; omega)
            exact fun _ _ => rfl
            exact src_list hB.hh fun _ _ => rfl
          · obtain ⟨fb, qs2, lk, rfl, inv4⟩ := hJ
            obtain ⟨i, hi0, rfl⟩ := map_get hd
            obtain ⟨r, hr, hpos⟩ := inv4.pos hg hi0
            have hm := List.mem_of_getElem? hr
            have hi : i < g.rules.length := (List.getElem?_eq_some_iff.mp hr).1
            have hlt2 := hg.left r hm
            have hnz := hg.nz
            have hrz := hg.rz
            have hqz2 := inv4.i.qz hg
            refine ⟨_, Bnd.asg rfl (bnd_local rfl (.head _) Up.head), ?_⟩
            apply ex_setitem
            rfl
            apply fun h => Ev.as h (show D.int ((lk i : Int) - 1) = dN (lk i - 1) by unfold dN; congr 1; omega)
            apply ev_bin
            rfl
            apply ev_item
            rfl
            exact ev_local rfl rfl rfl
            exact ev_local rfl rfl rfl
            exact sqP (.tail _ (.tail _ (.tail _ (.head _))))
            exact nL_at hi
            exact sz64 (by omega)
            exact fun _ _ => rfl
            exact ev_int rfl
            exact op_sub
            exact ev_local rfl rfl rfl
            exact ev_local rfl rfl rfl
            exact .tail _ (.tail _ (.tail _ (.head _)))
            exact (by rw [nL_len]; exact hi)
            exact sz64 (by omega)
            exact Up.tail (Up.tail (Up.tail Up.head))
            rfl
            rw [nL_set]
            apply ex_assign
            rfl
            apply aR
            rfl
            rfl
            apply ev_item
            rfl
            exact lG rfl rfl rfl rfl
            exact ev_local rfl rfl rfl
            exact sq
            exact map_at hr
            exact sz64 (by omega)
            exact fun _ _ => rfl
            rfl
            exact bnd_local rfl (.head _) Up.head
            rfl
            apply ex_if
            rfl
            apply ask_and
            rfl
            apply ask_cmp
            rfl
            apply ev_item
            rfl
            exact ev_local rfl rfl rfl
            exact ev_local rfl rfl rfl
            exact sqP (.tail _ (.tail _ (.tail _ (.head _))))
            exact nL_at hi
            exact sz64 (by omega)
            exact fun _ _ => rfl
            exact ev_int rfl
            exact op_eqi
            rfl
            intro hT1
            apply ask_not
            rfl
            apply ask_plain
            apply ev_item
            rfl
            exact ev_local rfl rfl rfl
            exact ev_local rfl rfl rfl
            exact sqP (.tail _ (.tail _ (.head _)))
            exact bL_at hlt2
            exact sz64 (by omega)
            exact fun _ _ => rfl
            exact fun _ => rfl
            exact fun _ => rfl
            · intro hT
              rw [Bool.and_eq_true, beq_iff_eq] at hT
              have h0 : dec lk i i = 0 := Int.ofNat_inj.mp hT.1
              have hf : fb r.left = false := by have := hT.2; cases h : fb r.left <;> rw [h] at this <;> first | rfl | cases this
              apply ex_setitem
              rfl
              exact ev_bool rfl
              exact ev_local rfl rfl rfl
              exact ev_local rfl rfl rfl
              exact .tail _ (.tail _ (.head _))
              exact (by rw [bL_len]; exact hlt2)
              exact sz64 (by omega)
              exact Up.tail (Up.tail Up.head)
              rfl
              apply ex_expr
              rfl
              apply ev_meth
              rfl
              exact ev_local rfl rfl rfl
              exact m_append (sqP (.tail _ (.head _)))
              first | exact .inl ⟨_, rfl⟩ | exact .inr (.inl ⟨_, rfl⟩) | exact .inr (.inr (by kernel_rfl))
              apply as_cons
              rfl
              rfl
              exact ev_local rfl rfl rfl
              exact as_nil
              exact cd_append (.tail _ (.head _)) (Up.tail Up.head) (by rw [List.length_map]; exact hqz2)
              rfl
              rfl
              refine ex_end rfl (thn ?_)
              refine Ex.ns (m' := [("at", .int (at_ : Nat)), ("queue", .ptr q), ("users", .lst ((uL g.names.length (u0 g kb g.rules.length)).map .lst)), ("lacking", .ptr la), ("found", .ptr fl), ("grammar", dGram X g), ("known", .lst (bL g.names.length kb))]) ?_ (nsk_cons rfl (nsk_cons rfl (nsk_cons rfl (nsk_cons rfl (nsk_cons rfl (nsk_cons rfl (nsk_cons rfl nsk_nil)))))))
              refine ex_end rfl ⟨.inl rfl, (L, P.ns [("at", .int (at_ : Nat)), ("queue", .ptr q), ("users", .lst ((uL g.names.length (u0 g kb g.rules.length)).map .lst)), ("lacking", .ptr la), ("found", .ptr fl), ("grammar", dGram X g), ("known", .lst (bL g.names.length kb))]) :: (q, P.lst ((qs2 ++ [r.left]).map dN)) :: (fl, P.lst (bL g.names.length (upd fb r.left))) :: (la, P.lst (nL g.rules.length (dec lk i))) :: H, ?_, _, _, _, rfl, inv4.yes hg hi0 hr h0 hf⟩
              rw [bL_set, List.map_append]
              rfl
            · intro hF
              have hn0 : dec lk i i = 0 → fb r.left = true := fun h => by
                  rw [h] at hF
                  cases hq : fb r.left with
                  | true => rfl
                  | false => rw [hq] at hF; cases hF
              refine ex_end rfl (thn ?_)
              refine Ex.ns (m' := [("at", .int (at_ : Nat)), ("queue", .ptr q), ("users", .lst ((uL g.names.length (u0 g kb g.rules.length)).map .lst)), ("lacking", .ptr la), ("found", .ptr fl), ("grammar", dGram X g), ("known", .lst (bL g.names.length kb))]) ?_ (nsk_cons rfl (nsk_cons rfl (nsk_cons rfl (nsk_cons rfl (nsk_cons rfl (nsk_cons rfl (nsk_cons rfl nsk_nil)))))))
              exact ex_end rfl ⟨.inl rfl, (L, P.ns [("at", .int (at_ : Nat)), ("queue", .ptr q), ("users", .lst ((uL g.names.length (u0 g kb g.rules.length)).map .lst)), ("lacking", .ptr la), ("found", .ptr fl), ("grammar", dGram X g), ("known", .lst (bL g.names.length kb))]) :: (q, P.lst ((qs2).map dN)) :: (fl, P.lst (bL g.names.length (fb))) :: (la, P.lst (nL g.rules.length (dec lk i))) :: H, rfl, _, _, _, rfl, inv4.no hg hi0 hr hn0⟩
          · obtain ⟨fb, qs2, lk, rfl, inv4⟩ := hJ
            rw [List.length_map] at inv4
            have inv5 := inv4.back hg
            rw [List.length_take, Nat.min_eq_left (Nat.le_of_lt hlt)] at inv5
            have hq5 := inv5.i.qn hg
            have hq6 := inv5.le
            apply ex_assign
            rfl
            apply ev_bin
            rfl
            exact ev_local rfl rfl rfl
            exact ev_int rfl
            exact op_add
            exact bnd_local rfl (.head _) Up.head
            rfl
            refine Ex.ns (m' := [("at", .int (at_ + 1 : Nat)), ("queue", .ptr q), ("users", .lst ((uL g.names.length (u0 g kb g.rules.length)).map .lst)), ("lacking", .ptr la), ("found", .ptr fl), ("grammar", dGram X g), ("known", .lst (bL g.names.length kb))]) ?_ (nsk_cons rfl (nsk_cons rfl (nsk_cons rfl (nsk_cons rfl (nsk_cons rfl (nsk_cons rfl (nsk_cons rfl nsk_nil)))))))
            exact ex_end rfl ⟨.inl rfl, _, by omega, at_ + 1, fb, qs2, lk, rfl, inv5, rfl⟩
        · cases Nat.le_antisymm inv.le (Nat.le_of_not_lt (of_decide_eq_false hb))
          exact ⟨fb, qs, lk, rfl, inv⟩
      · obtain ⟨fb, qs, lk, rfl, inv⟩ := hZ
        rw [show bL g.names.length fb = bL g.names.length (prdB g kb) from by unfold bL; refine List.map_congr_left fun x _ => congrArg D.bool ?_; rw [Bool.eq_iff_iff, inv.all, prdB_iff]]
        apply ex_ret
        rfl
        apply Ev.frz (ev_local rfl rfl rfl)
        repeat (first | apply Pull.head | apply Pull.tail)
        exact ⟨.inl rfl, .skip (.skip (.skip .rfl))⟩
end
end Mine
namespace Mine
inductive Rch (g : Gram) (ub : Nat → Bool) : Nat → Prop
  | acc : Rch g ub g.tc
  | step {r : RuleD} {x : Nat} (h : r ∈ g.rules) (u : ub r.num = true) (l : Rch g ub r.left) (m : x ∈ r.right) : Rch g ub x
noncomputable def cnt (n : Nat) (fb : Nat → Bool) : Nat := ((List.range n).filter fun x => !fb x).length
theorem cnt_upd {n x : Nat} {fb : Nat → Bool} (hx : x < n) (hf : fb x = false) : cnt n (upd fb x) + 1 = cnt n fb := by
  unfold cnt
  have key : ∀ l : List Nat, l.Nodup → (l.filter fun y => !upd fb x y).length + l.count x = (l.filter fun y => !fb y).length := by
    intro l nd
    induction l with
    | nil => rfl
    | cons y l ih =>
      rw [List.nodup_cons] at nd
      have := ih nd.2
      rw [List.filter_cons, List.filter_cons, List.count_cons]
      by_cases e : y = x
      · subst e
        rw [show upd fb y y = true from upd_self, hf, beq_self_eq_true]
        simp only [Bool.not_true, Bool.not_false, if_true]
        rw [if_neg Bool.false_ne_true, List.length_cons]; omega
      · rw [show upd fb x y = fb y from if_neg e, beq_eq_false_iff_ne.mpr e, if_neg (show ¬ (false = true) from Bool.false_ne_true)]
        split
        · rw [List.length_cons, List.length_cons]; omega
        · exact this
  have h1 := key (List.range n) List.nodup_range
  have h2 : (List.range n).count x = 1 := List.nodup_range.count.trans (if_pos (List.mem_range.mpr hx))
  omega
structure RI (g : Gram) (ub fb : Nat → Bool) (st : List Nat) (P : RuleD → Prop) : Prop where
  acc : fb g.tc = true
  sound : ∀ x, fb x = true → Rch g ub x
  on : ∀ x ∈ st, fb x = true ∧ x < g.names.length
  cl : ∀ r ∈ g.rules, ub r.num = true → fb r.left = true → r.left ∈ st ∨ P r ∨ ∀ x ∈ r.right, fb x = true
theorem RI.push {g : Gram} {ub fb : Nat → Bool} {st : List Nat} {P : RuleD → Prop} {x : Nat} (h : RI g ub fb st P) (hx : Rch g ub x) (hn : x < g.names.length) : RI g ub (upd fb x) (st ++ [x]) P where
  acc := upd_true h.acc
  sound := fun y hy => by
    unfold upd at hy
    by_cases e : y = x
    · exact e ▸ hx
    · rw [if_neg e] at hy; exact h.sound y hy
  on := fun y hy => by
    rcases List.mem_append.mp hy with hy | hy
    · exact ⟨upd_true (h.on y hy).1, (h.on y hy).2⟩
    · rw [List.mem_singleton] at hy; subst hy; exact ⟨upd_self, hn⟩
  cl := fun r hr hu hl => by
    by_cases e : r.left = x
    · exact .inl (List.mem_append_right _ (e ▸ .head _))
    · unfold upd at hl
      rw [if_neg e] at hl
      rcases h.cl r hr hu hl with q | q | q
      · exact .inl (List.mem_append_left _ q)
      · exact .inr (.inl q)
      · exact .inr (.inr fun y hy => upd_true (q y hy))
theorem RI.pop {g : Gram} {ub fb : Nat → Bool} {st : List Nat} {y : Nat} (h : RI g ub fb (st ++ [y]) fun _ => False) : RI g ub fb st fun r => r.left = y ∧ r.num ∈ (g.byLeft y).drop 0 where
  acc := h.acc
  sound := h.sound
  on := fun x hx => h.on x (List.mem_append_left _ hx)
  cl := fun r hr hu hl => by
    rcases h.cl r hr hu hl with q | q | q
    · rcases List.mem_append.mp q with q | q
      · exact .inl q
      · rw [List.mem_singleton] at q
        refine .inr (.inl ⟨q, ?_⟩)
        rw [List.drop_zero]
        exact List.mem_map.mpr ⟨r, List.mem_filter.mpr ⟨hr, by rw [q]; exact beq_self_eq_true _⟩, rfl⟩
    · exact q.elim
    · exact .inr (.inr q)
theorem byLeft_rule {g : Gram} (hg : g.Ok) {y i : Nat} (h : i ∈ g.byLeft y) : ∃ r, g.rules[i]? = some r ∧ r.left = y ∧ r.num = i := by
  unfold Gram.byLeft at h
  obtain ⟨r, hr, rfl⟩ := List.mem_map.mp h
  obtain ⟨h1, h2⟩ := List.mem_filter.mp hr
  obtain ⟨k, hk⟩ := List.mem_iff_getElem?.mp h1
  have := hg.num k r hk
  exact ⟨r, by rw [this]; exact hk, beq_iff_eq.mp h2, rfl⟩
theorem RI.next {g : Gram} (hg : g.Ok) {ub fb : Nat → Bool} {st : List Nat} {y t i : Nat} {r : RuleD} (h : RI g ub fb st fun r => r.left = y ∧ r.num ∈ (g.byLeft y).drop t) (ht : (g.byLeft y)[t]? = some i) (hr : g.rules[i]? = some r)
    (hd : ub r.num = true → ∀ x ∈ r.right, fb x = true) : RI g ub fb st fun r => r.left = y ∧ r.num ∈ (g.byLeft y).drop (t + 1) where
  acc := h.acc
  sound := h.sound
  on := h.on
  cl := fun q hq hu hl => by
    rcases h.cl q hq hu hl with z | z | z
    · exact .inl z
    · have hlt : t < (g.byLeft y).length := (List.getElem?_eq_some_iff.mp ht).1
      obtain ⟨z1, z2⟩ := z
      rw [List.drop_eq_getElem_cons hlt, show (g.byLeft y)[t] = i from (List.getElem?_eq_some_iff.mp ht).2] at z2
      rcases List.mem_cons.mp z2 with z2 | z2
      · obtain ⟨k, hk⟩ := List.mem_iff_getElem?.mp hq
        have := hg.num k q hk
        rw [z2] at this
        subst this
        rw [hr] at hk; cases hk
        exact .inr (.inr (hd hu))
      · exact .inr (.inl ⟨z1, z2⟩)
    · exact .inr (.inr z)
theorem RI.done {g : Gram} {ub fb : Nat → Bool} {st : List Nat} {y : Nat} (h : RI g ub fb st fun r => r.left = y ∧ r.num ∈ (g.byLeft y).drop (g.byLeft y).length) : RI g ub fb st fun _ => False where
  acc := h.acc
  sound := h.sound
  on := h.on
  cl := fun q hq hu hl => by
    rcases h.cl q hq hu hl with z | z | z
    · exact .inl z
    · rw [List.drop_length] at z; exact (List.not_mem_nil z.2).elim
    · exact .inr (.inr z)
theorem RI.all {g : Gram} {ub fb : Nat → Bool} (h : RI g ub fb [] fun _ => False) {x : Nat} : fb x = true ↔ Rch g ub x := by
  refine ⟨h.sound x, fun hx => ?_⟩
  induction hx with
  | acc => exact h.acc
  | step hr hu l m ih =>
    rcases h.cl _ hr hu ih with z | z | z
    · exact (List.not_mem_nil z).elim
    · exact z.elim
    · exact z _ m
noncomputable def rchB (g : Gram) (ub : Nat → Bool) (x : Nat) : Bool := @decide (Rch g ub x) (Classical.propDecidable _)
theorem rchB_iff {g : Gram} {ub : Nat → Bool} {x : Nat} : rchB g ub x = true ↔ Rch g ub x := @decide_eq_true_iff _ (Classical.propDecidable _)
noncomputable def hvB (g : Gram) : Nat → Bool := prdB g fun x => decide (x < g.tc)
noncomputable def usB (g : Gram) (r : RuleD) : Bool := (r.right.filter fun s => !hvB g s).isEmpty
noncomputable def ubB (g : Gram) (i : Nat) : Bool := ((g.rules[i]?).map (usB g)).getD false
noncomputable def ndB (g : Gram) : Nat → Bool := rchB g (ubB g)
theorem ubB_at {g : Gram} {i : Nat} {r : RuleD} (h : g.rules[i]? = some r) : ubB g i = usB g r := by unfold ubB; rw [h]; rfl
theorem ubB_map {g : Gram} : (g.rules.map fun r => D.bool (usB g r)) = bL g.rules.length (ubB g) := by
  unfold bL
  refine List.ext_getElem? fun i => ?_
  rw [List.getElem?_map, List.getElem?_map]
  by_cases h : i < g.rules.length
  · rw [List.getElem?_range h, List.getElem?_eq_getElem h]
    unfold ubB
    rw [Option.map_some, Option.map_some, List.getElem?_eq_getElem h]; rfl
  · rw [List.getElem?_eq_none (by omega), List.getElem?_eq_none (by rw [List.length_range]; omega)]; rfl
end Mine
namespace Mine
noncomputable abbrev fdPR : FuncData := fdOf (topAt 12) "" .none pmA 191
noncomputable abbrev fdRB : FuncData := fdOf (topAt 13) "" .none pmA 198
noncomputable abbrev fdUR : FuncData := fdOf (topAt 14) "" .none pmA 203
section
variable {X : Cx} {A : Around} {H : Hs} {n : Nat} {g : Gram}
theorem w_productive (hA : Rm A (n + 3)) (hg : g.Ok) : Fn X A (.ref 192) [dGram X g] H (.lst (bL g.names.length (hvB g))) H := by
  refine fn_inC (fd := fdPR) (c := 191) (ks := ["grammar"]) (cn := ["grammar"]) (cs := fun n => [("grammar", n)]) (ds := [dGram X g]) rfl rfl rfl rfl hA.lt rfl (fun _ => rfl) rfl rfl (fun _ => rfl) (fun _ => rfl) fun L => ?_
  show Ex X _ _ ((L, P.ns []) :: (L + 1, P.cell (some (dGram X g))) :: H) _
  have hB : Rm (A.deeper (callEnvC fdPR L 192)) (n + 2) := hA.deeper
  apply ex_ret
  rfl
  apply ev_call
  rfl
  exact ev_global rfl rfl rfl
  first | exact .inl ⟨_, rfl⟩ | exact .inr (.inl ⟨_, rfl⟩) | exact .inr (.inr (by kernel_rfl))
  apply as_cons
  rfl
  rfl
  apply ev_cell
  rfl
  rfl
  rfl
  first | exact .head _ | exact .tail _ (.head _) | exact .tail _ (.tail _ (.head _)) | exact .tail _ (.tail _ (.tail _ (.head _))) | exact .tail _ (.tail _ (.tail _ (.tail _ (.head _)))) | exact .tail _ (.tail _ (.tail _ (.tail _ (.tail _ (.head _))))) | exact .tail _ (.tail _ (.tail _ (.tail _ (.tail _ (.tail _ (.head _))))))
  apply as_cons
  rfl
  rfl
  apply ev_compA (List.range g.names.length) (fun j : Nat => D.int (j : Int)) (fun x => D.bool (decide (x < g.tc)))
  rfl
  exact ⟨rfl, rfl, rfl, rfl, fun _ => rfl⟩
  rw [show (List.range (g.names.length)).map (fun j : Nat => D.int (j : Int)) = upFrom 0 (g.names.length) from upFrom0.symm]
  apply srcE (d := .rng 0 (g.names.length : Nat))
  apply call1
  rfl
  rfl
  rfl
  exact ev_builtin rfl rfl rfl boot_range
  first | exact .inl ⟨_, rfl⟩ | exact .inr (.inl ⟨_, rfl⟩) | exact .inr (.inr (by kernel_rfl))
  apply ev_meth
  rfl
  apply ev_cell
  rfl
  rfl
  rfl
  first | exact .head _ | exact .tail _ (.head _) | exact .tail _ (.tail _ (.head _)) | exact .tail _ (.tail _ (.tail _ (.head _))) | exact .tail _ (.tail _ (.tail _ (.tail _ (.head _)))) | exact .tail _ (.tail _ (.tail _ (.tail _ (.tail _ (.head _))))) | exact .tail _ (.tail _ (.tail _ (.tail _ (.tail _ (.tail _ (.head _))))))
  exact meth_obj clsG rfl rfl rfl
  first | exact .inl ⟨_, rfl⟩ | exact .inr (.inl ⟨_, rfl⟩) | exact .inr (.inr (by kernel_rfl))
  exact as_nil
  exact (w_symbol_count (n := n + 1) hB hg).call
  exact cd_rangeN rfl
  exact src_range0 hB.hh (fun _ _ => rfl) hg.nz
  exact (by rw [List.length_range]; exact sz64 hg.nz)
  · refine fun C T i hi => ⟨_, Bnd.asg rfl (bnd_local rfl (.head _) Up.head), ?_⟩
    apply ev_meth
    rfl
    apply ev_cell
    rfl
    rfl
    rfl
    first | exact .head _ | exact .tail _ (.head _) | exact .tail _ (.tail _ (.head _)) | exact .tail _ (.tail _ (.tail _ (.head _))) | exact .tail _ (.tail _ (.tail _ (.tail _ (.head _)))) | exact .tail _ (.tail _ (.tail _ (.tail _ (.tail _ (.head _))))) | exact .tail _ (.tail _ (.tail _ (.tail _ (.tail _ (.tail _ (.head _))))))
    exact meth_obj clsG rfl rfl rfl
    first | exact .inl ⟨_, rfl⟩ | exact .inr (.inl ⟨_, rfl⟩) | exact .inr (.inr (by kernel_rfl))
    apply as_cons
    rfl
    rfl
    exact ev_local rfl rfl rfl
    exact as_nil
    exact (w_is_terminal (n := n + 1) hB).call
  exact as_nil
  exact (w_spread (n := n + 1) hB hg (kb := fun x => decide (x < g.tc))).call
  exact ⟨.inl rfl, .skip (.skip .rfl)⟩
theorem ri_start {ub : Nat → Bool} (htc : g.tc < g.names.length) : RI g ub (upd (fun _ => false) g.tc) [g.tc] fun _ => False where
  acc := upd_self
  sound := fun x hx => by
    unfold upd at hx
    by_cases e : x = g.tc
    · exact e ▸ .acc
    · rw [if_neg e] at hx; cases hx
  on := fun x hx => by rw [List.mem_singleton] at hx; subst hx; exact ⟨upd_self, htc⟩
  cl := fun r hr hu hl => by
    unfold upd at hl
    by_cases e : r.left = g.tc
    · exact .inl (e ▸ .head _)
    · rw [if_neg e] at hl; cases hl
theorem w_reached (hA : Rm A (n + 2)) (hg : g.Ok) {ub : Nat → Bool} : Fn X A (.ref 199) [dGram X g, .lst (bL g.rules.length ub)] H (.lst (bL g.names.length (rchB g ub))) H := by
  refine fn_inC (fd := fdRB) (c := 198) (ks := ["grammar", "usable"]) (cn := []) (cs := fun n => []) (ds := [dGram X g, .lst (bL g.rules.length ub)]) rfl rfl rfl rfl hA.lt rfl (fun _ _ => rfl) rfl rfl (fun _ => rfl) (fun _ => rfl) fun L => ?_
  show Ex X _ _ ((L, P.ns [("grammar", dGram X g), ("usable", .lst (bL g.rules.length ub))]) :: H) _
  have hB : Rm (A.deeper (callEnvC fdRB L 199)) (n + 1) := hA.deeper
  have hbz : ∀ fb, (bL g.names.length fb).length ≤ sizeLine := fun fb => by rw [bL_len]; exact sz64 hg.nz
  have hnz := hg.nz
  have hrz := hg.rz
  have htc := hg.tc
  have h5 : 10000 ≤ sizeLine := by decide
  apply ex_newL
  rfl
  rfl
  apply binop_new
  rfl
  apply New.ev
  apply new_list
  rfl
  apply as_cons
  rfl
  rfl
  exact ev_bool rfl
  exact as_nil
  rfl
  apply ev_meth
  rfl
  exact ev_local rfl rfl rfl
  exact meth_obj clsG rfl rfl rfl
  first | exact .inl ⟨_, rfl⟩ | exact .inr (.inl ⟨_, rfl⟩) | exact .inr (.inr (by kernel_rfl))
  exact as_nil
  exact (w_symbol_count (n := n) hB hg).call
  exact mul_one (.head _) sq (sz64 hg.nz)
  rfl
  intro fl
  rw [show List.replicate g.names.length (D.bool false) = bL g.names.length (fun _ => false) from by unfold bL; rw [eq_comm, List.eq_replicate_iff]; exact ⟨by rw [List.length_map, List.length_range], fun b hb => by obtain ⟨x, _, rfl⟩ := List.mem_map.mp hb; rfl⟩]
  apply ex_assign
  rfl
  exact lG rfl rfl rfl rfl
  exact bnd_local rfl (.head _) Up.head
  rfl
  apply ex_setitem
  rfl
  exact ev_bool rfl
  exact ev_local rfl rfl rfl
  exact ev_local rfl rfl rfl
  exact .tail _ (.head _)
  exact (by rw [bL_len]; exact htc)
  exact sz64 (by omega)
  exact Up.tail Up.head
  rfl
  rw [bL_set]
  apply ex_newL
  rfl
  rfl
  apply new_list
  rfl
  apply as_cons
  rfl
  rfl
  exact ev_local rfl rfl rfl
  exact as_nil
  rfl
  rfl
  intro l
  refine ex_while rfl (fun m K => ∃ fb st, K = (L, P.ns [("left", .ptr l), ("accept", dN g.tc), ("found", .ptr fl), ("grammar", dGram X g), ("usable", .lst (bL g.rules.length ub))]) :: (l, P.lst ((st).map dN)) :: (fl, P.lst (bL g.names.length (fb))) :: H ∧ RI g ub fb st (fun _ => False) ∧ m = cnt g.names.length fb + st.length ∧ m ≤ 64) (fun K => ∃ fb, K = (L, P.ns [("left", .ptr l), ("accept", dN g.tc), ("found", .ptr fl), ("grammar", dGram X g), ("usable", .lst (bL g.rules.length ub))]) :: (l, P.lst ((([] : List Nat)).map dN)) :: (fl, P.lst (bL g.names.length (fb))) :: H ∧ RI g ub fb [] (fun _ => False)) ⟨upd (fun _ => false) g.tc, [g.tc], rfl, ri_start htc, rfl, ?_⟩ (fun m K hJ => ?_) fun K hZ => ?_
  · have := cnt_upd (fb := fun _ => false) htc rfl
    have h2 : cnt g.names.length (fun _ => false) ≤ g.names.length := by unfold cnt; exact Nat.le_trans (List.length_filter_le _ _) (by rw [List.length_range]; exact Nat.le_refl _)
    show _ + 1 ≤ 64
    omega
  · obtain ⟨fb, st, rfl, inv, rfl, hm⟩ := hJ
    refine ⟨!(st.map fun x : Nat => PyData.int x).isEmpty, (L, P.ns [("left", .ptr l), ("accept", dN g.tc), ("found", .ptr fl), ("grammar", dGram X g), ("usable", .lst (bL g.rules.length ub))]) :: (l, P.lst ((st).map dN)) :: (fl, P.lst (bL g.names.length (fb))) :: H, ?_, fun hb => ?_, fun hb => ?_⟩
    · apply ask_cmp
      rfl
      exact ev_local rfl rfl rfl
      exact ev_nil rfl
      exact op_neNil hB (sqP (.tail _ (.head _))) (RdL.map (g := fun x : Nat => PyData.int x) fun x _ => rd_int) (lays_map fun _ _ => rfl)
      rfl
    · obtain ⟨st, y, rfl⟩ : ∃ s y, st = s ++ [y] := by
          cases st using snoc_ind with
          | h0 => cases hb
          | hs s y => exact ⟨s, y, rfl⟩
      have hy := (inv.on y (List.mem_append_right _ (.head _))).2
      have hyr := inv.sound y (inv.on y (List.mem_append_right _ (.head _))).1
      rw [List.length_append] at hm ⊢
      have hst : st.length < sizeLine := by omega
      refine ex_for (Z := []) (H₁ := (L, P.ns [("left", .ptr l), ("accept", dN g.tc), ("found", .ptr fl), ("grammar", dGram X g), ("usable", .lst (bL g.rules.length ub))]) :: (l, P.lst ((st).map dN)) :: (fl, P.lst (bL g.names.length (fb))) :: H) (items := (g.byLeft y).map dN) rfl ?_ (fun t K => ∃ fb2 st2, K = (L, P.ns [("left", .ptr l), ("accept", dN g.tc), ("found", .ptr fl), ("grammar", dGram X g), ("usable", .lst (bL g.rules.length ub))]) :: (l, P.lst ((st2).map dN)) :: (fl, P.lst (bL g.names.length (fb2))) :: H ∧ RI g ub fb2 st2 (fun r => r.left = y ∧ r.num ∈ (g.byLeft y).drop t) ∧ cnt g.names.length fb2 + st2.length = cnt g.names.length fb + st.length) ⟨fb, st, rfl, inv.pop, rfl⟩ (fun _ => rfl) (fun T t K d hJ hd => ?_) fun K hJ => ?_
      · apply srcE (d := .lst ((g.byLeft y).map dN))
        apply ev_meth
        rfl
        exact ev_local rfl rfl rfl
        exact meth_obj clsG rfl rfl rfl
        first | exact .inl ⟨_, rfl⟩ | exact .inr (.inl ⟨_, rfl⟩) | exact .inr (.inr (by kernel_rfl))
        apply as_cons
        rfl
        rfl
        apply ev_meth
        rfl
        exact ev_local rfl rfl rfl
        exact m_pop (sqP (.tail _ (.head _)))
        first | exact .inl ⟨_, rfl⟩ | exact .inr (.inl ⟨_, rfl⟩) | exact .inr (.inr (by kernel_rfl))
        exact as_nil
        exact cd_pop (ds := st.map dN) (d := dN y) (by rw [← List.map_singleton (f := dN), ← List.map_append]; exact .tail _ (.head _)) (Up.tail Up.head) (by rw [List.length_map]; exact hst)
        exact as_nil
        exact (w_rules_of (n := n) hB hg hy).call
        exact src_list hB.hh fun _ _ => rfl
      · obtain ⟨fb2, st2, rfl, inv2, hc⟩ := hJ
        obtain ⟨i, hi0, rfl⟩ := map_get hd
        obtain ⟨r, hr, hrl, rfl⟩ := byLeft_rule hg (List.mem_of_getElem? hi0)
        have hrm := List.mem_of_getElem? hr
        have hi : r.num < g.rules.length := (List.getElem?_eq_some_iff.mp hr).1
        refine ⟨_, Bnd.asg rfl (bnd_local rfl (.head _) Up.head), ?_⟩
        apply ex_if
        rfl
        apply ask_not
        rfl
        apply ask_plain
        apply ev_item
        rfl
        exact ev_local rfl rfl rfl
        exact ev_local rfl rfl rfl
        exact sq
        exact bL_at hi
        exact sz64 (by omega)
        exact fun _ _ => rfl
        exact fun _ => rfl
        · intro hT
          have hu : ub r.num = false := by cases h : ub r.num <;> rw [h] at hT <;> first | rfl | cases hT
          refine Ex.ns (m' := [("left", .ptr l), ("accept", dN g.tc), ("found", .ptr fl), ("grammar", dGram X g), ("usable", .lst (bL g.rules.length ub))]) ?_ (nsk_cons rfl (nsk_cons rfl (nsk_cons rfl (nsk_cons rfl (nsk_cons rfl nsk_nil)))))
          exact ex_continue rfl ⟨(by intro e; cases e), fun _ => ⟨.inr rfl, (L, P.ns [("left", .ptr l), ("accept", dN g.tc), ("found", .ptr fl), ("grammar", dGram X g), ("usable", .lst (bL g.rules.length ub))]) :: (l, P.lst ((st2).map dN)) :: (fl, P.lst (bL g.names.length (fb2))) :: H, rfl, fb2, st2, rfl, inv2.next hg hi0 hr (fun h => by rw [hu] at h; cases h), hc⟩⟩
        · intro hF
          have hu : ub r.num = true := by cases h : ub r.num <;> rw [h] at hF <;> first | rfl | cases hF
          refine ex_end rfl (thn ?_)
          refine ex_for (Z := []) (H₁ := (L, P.ns [("number", dN r.num), ("left", .ptr l), ("accept", dN g.tc), ("found", .ptr fl), ("grammar", dGram X g), ("usable", .lst (bL g.rules.length ub))]) :: (l, P.lst ((st2).map dN)) :: (fl, P.lst (bL g.names.length (fb2))) :: (H ++ T)) (items := r.right.map dN) rfl ?_ (fun s K => ∃ fb3 st3, K = (L, P.ns [("number", dN r.num), ("left", .ptr l), ("accept", dN g.tc), ("found", .ptr fl), ("grammar", dGram X g), ("usable", .lst (bL g.rules.length ub))]) :: (l, P.lst ((st3).map dN)) :: (fl, P.lst (bL g.names.length (fb3))) :: (H ++ T) ∧ RI g ub fb3 st3 (fun r => r.left = y ∧ r.num ∈ (g.byLeft y).drop t) ∧ cnt g.names.length fb3 + st3.length = cnt g.names.length fb + st.length ∧ (∀ x ∈ r.right.take s, fb3 x = true)) ⟨fb2, st2, rfl, inv2, hc, fun x hx => (List.not_mem_nil hx).elim⟩ (fun _ => rfl) (fun T2 s K d hJ hd => ?_) fun K hJ => ?_
          · apply srcE (d := .tup (r.right.map dN))
            apply aR
            rfl
            rfl
            apply ev_item
            rfl
            exact lG rfl rfl rfl rfl
            exact ev_local rfl rfl rfl
            exact sq
            exact map_at hr
            exact sz64 (by omega)
            exact fun _ _ => rfl
            rfl
            exact src_tup hB.hh fun _ _ => rfl
          · obtain ⟨fb3, st3, rfl, inv3, hc3, hd3⟩ := hJ
            obtain ⟨x, hx0, rfl⟩ := map_get hd
            have hxm := List.mem_of_getElem? hx0
            have hx := hg.right r hrm x hxm
            have hxl : s < r.right.length := (List.getElem?_eq_some_iff.mp hx0).1
            have hxe : r.right[s] = x := (List.getElem?_eq_some_iff.mp hx0).2
            refine ⟨_, Bnd.asg rfl (bnd_local rfl (.head _) Up.head), ?_⟩
            apply ex_if
            rfl
            apply ask_not
            rfl
            apply ask_plain
            apply ev_item
            rfl
            exact ev_local rfl rfl rfl
            exact ev_local rfl rfl rfl
            exact sqP (.tail _ (.tail _ (.head _)))
            exact bL_at hx
            exact sz64 (by omega)
            exact fun _ _ => rfl
            exact fun _ => rfl
            · intro hT
              have hf : fb3 x = false := by cases h : fb3 x <;> rw [h] at hT <;> first | rfl | cases hT
              have hcu := cnt_upd hx hf
              apply ex_setitem
              rfl
              exact ev_bool rfl
              exact ev_local rfl rfl rfl
              exact ev_local rfl rfl rfl
              exact .tail _ (.tail _ (.head _))
              exact (by rw [bL_len]; exact hx)
              exact sz64 (by omega)
              exact Up.tail (Up.tail Up.head)
              rfl
              apply ex_expr
              rfl
              apply ev_meth
              rfl
              exact ev_local rfl rfl rfl
              exact m_append (sqP (.tail _ (.head _)))
              first | exact .inl ⟨_, rfl⟩ | exact .inr (.inl ⟨_, rfl⟩) | exact .inr (.inr (by kernel_rfl))
              apply as_cons
              rfl
              rfl
              exact ev_local rfl rfl rfl
              exact as_nil
              exact cd_append (.tail _ (.head _)) (Up.tail Up.head) (by rw [List.length_map]; omega)
              rfl
              rfl
              refine ex_end rfl (thn ?_)
              refine Ex.ns (m' := [("number", dN r.num), ("left", .ptr l), ("accept", dN g.tc), ("found", .ptr fl), ("grammar", dGram X g), ("usable", .lst (bL g.rules.length ub))]) ?_ (nsk_cons rfl (nsk_cons rfl (nsk_cons rfl (nsk_cons rfl (nsk_cons rfl (nsk_cons rfl nsk_nil))))))
              refine ex_end rfl ⟨.inl rfl, (L, P.ns [("number", dN r.num), ("left", .ptr l), ("accept", dN g.tc), ("found", .ptr fl), ("grammar", dGram X g), ("usable", .lst (bL g.rules.length ub))]) :: (l, P.lst ((st3 ++ [x]).map dN)) :: (fl, P.lst (bL g.names.length (upd fb3 x))) :: (H ++ T), ?_, upd fb3 x, st3 ++ [x], rfl, inv3.push (.step hrm hu (hrl ▸ hyr) hxm) hx, by rw [List.length_append, List.length_singleton]; omega, fun z hz => ?_⟩
              · rw [bL_set, List.map_append]
                rfl
              · rw [List.take_succ_eq_append_getElem hxl, hxe] at hz
                rcases List.mem_append.mp hz with hz | hz
                · exact upd_true (hd3 z hz)
                · rw [List.mem_singleton] at hz; subst hz; exact upd_self
            · intro hF
              have hf : fb3 x = true := by cases h : fb3 x <;> rw [h] at hF <;> first | rfl | cases hF
              refine ex_end rfl (thn ?_)
              refine Ex.ns (m' := [("number", dN r.num), ("left", .ptr l), ("accept", dN g.tc), ("found", .ptr fl), ("grammar", dGram X g), ("usable", .lst (bL g.rules.length ub))]) ?_ (nsk_cons rfl (nsk_cons rfl (nsk_cons rfl (nsk_cons rfl (nsk_cons rfl (nsk_cons rfl nsk_nil))))))
              refine ex_end rfl ⟨.inl rfl, (L, P.ns [("number", dN r.num), ("left", .ptr l), ("accept", dN g.tc), ("found", .ptr fl), ("grammar", dGram X g), ("usable", .lst (bL g.rules.length ub))]) :: (l, P.lst ((st3).map dN)) :: (fl, P.lst (bL g.names.length (fb3))) :: (H ++ T), rfl, fb3, st3, rfl, inv3, hc3, fun z hz => ?_⟩
              rw [List.take_succ_eq_append_getElem hxl, hxe] at hz
              rcases List.mem_append.mp hz with hz | hz
              · exact hd3 z hz
              · rw [List.mem_singleton] at hz; subst hz; exact hf
          · obtain ⟨fb3, st3, rfl, inv3, hc3, hd3⟩ := hJ
            rw [List.length_map, List.take_length] at hd3
            refine Ex.ns (m' := [("left", .ptr l), ("accept", dN g.tc), ("found", .ptr fl), ("grammar", dGram X g), ("usable", .lst (bL g.rules.length ub))]) ?_ (nsk_cons rfl (nsk_cons rfl (nsk_cons rfl (nsk_cons rfl (nsk_cons rfl nsk_nil)))))
            exact ex_end rfl ⟨.inl rfl, (L, P.ns [("left", .ptr l), ("accept", dN g.tc), ("found", .ptr fl), ("grammar", dGram X g), ("usable", .lst (bL g.rules.length ub))]) :: (l, P.lst ((st3).map dN)) :: (fl, P.lst (bL g.names.length (fb3))) :: H, rfl, fb3, st3, rfl, inv3.next hg hi0 hr (fun _ => hd3), hc3⟩
      · obtain ⟨fb2, st2, rfl, inv2, hc⟩ := hJ
        rw [List.length_map] at inv2
        exact ex_end rfl ⟨.inl rfl, cnt g.names.length fb2 + st2.length, by rw [List.length_singleton]; omega, fb2, st2, rfl, inv2.done, rfl, by rw [List.length_singleton] at hm; omega⟩
    · cases st with
      | cons a st => cases hb
      | nil => exact ⟨fb, rfl, inv⟩
  · obtain ⟨fb, rfl, inv⟩ := hZ
    rw [show bL g.names.length fb = bL g.names.length (rchB g ub) from by unfold bL; refine List.map_congr_left fun x _ => congrArg D.bool ?_; rw [Bool.eq_iff_iff, inv.all, rchB_iff]]
    apply ex_ret
    rfl
    apply Ev.frz (ev_local rfl rfl rfl)
    repeat (first | apply Pull.head | apply Pull.tail)
    exact ⟨.inl rfl, .skip (.skip .rfl)⟩
theorem w_useful (hA : Rm A (n + 4)) (hg : g.Ok) : Fn X A (.ref 204) [dGram X g] H (.lst (bL g.rules.length (ubB g))) H := by
  refine fn_inC (fd := fdUR) (c := 203) (ks := ["grammar"]) (cn := ["having"]) (cs := fun n => [("having", n)]) (ds := [dGram X g]) rfl rfl rfl rfl hA.lt rfl (fun _ => rfl) rfl rfl (fun _ => rfl) (fun _ => rfl) fun L => ?_
  show Ex X _ _ ((L, P.ns [("grammar", dGram X g)]) :: (L + 1, P.cell none) :: H) _
  have hB : Rm (A.deeper (callEnvC fdUR L 204)) (n + 3) := hA.deeper
  have hnz := hg.nz
  have hrz := hg.rz
  apply ex_assign
  rfl
  apply call1
  rfl
  rfl
  rfl
  exact ev_global rfl rfl rfl
  first | exact .inl ⟨_, rfl⟩ | exact .inr (.inl ⟨_, rfl⟩) | exact .inr (.inr (by kernel_rfl))
  exact ev_local rfl rfl rfl
  exact (w_productive (n := n) hB hg).call
  apply bnd_cell
  rfl
  rfl
  first | exact .head _ | exact .tail _ (.head _) | exact .tail _ (.tail _ (.head _)) | exact .tail _ (.tail _ (.tail _ (.head _))) | exact .tail _ (.tail _ (.tail _ (.tail _ (.head _)))) | exact .tail _ (.tail _ (.tail _ (.tail _ (.tail _ (.head _))))) | exact .tail _ (.tail _ (.tail _ (.tail _ (.tail _ (.tail _ (.head _))))))
  first | exact Up.head | exact Up.tail Up.head | exact Up.tail (Up.tail Up.head) | exact Up.tail (Up.tail (Up.tail Up.head)) | exact Up.tail (Up.tail (Up.tail (Up.tail Up.head))) | exact Up.tail (Up.tail (Up.tail (Up.tail (Up.tail Up.head)))) | exact Up.tail (Up.tail (Up.tail (Up.tail (Up.tail (Up.tail Up.head)))))
  rfl
  apply ex_newL
  rfl
  rfl
  apply new_list
  rfl
  exact as_nil
  rfl
  rfl
  intro l
  refine ex_for (Z := []) (H₁ := (L, P.ns [("found", .ptr l), ("grammar", dGram X g)]) :: (l, P.lst ((([] : List RuleD)).map fun r => D.bool (usB g r))) :: (L + 1, P.cell (some (.lst (bL g.names.length (hvB g))))) :: H) (items := g.rules.map dRule) rfl ?_ (fun j K => K = (L, P.ns [("found", .ptr l), ("grammar", dGram X g)]) :: (l, P.lst ((g.rules.take j).map fun r => D.bool (usB g r))) :: (L + 1, P.cell (some (.lst (bL g.names.length (hvB g))))) :: H) rfl (fun _ => rfl) (fun T j K d hJ hd => ?_) fun K hJ => ?_
  · apply srcE (d := .lst (g.rules.map dRule))
    exact lG rfl rfl rfl rfl
    exact src_list hB.hh fun _ _ => rfl
  · subst hJ
    obtain ⟨r, hr, rfl⟩ := map_get hd
    have hm := List.mem_of_getElem? hr
    have hj : j < g.rules.length := (List.getElem?_eq_some_iff.mp hr).1
    refine ⟨_, Bnd.asg rfl (bnd_local rfl (.head _) Up.head), ?_⟩
    apply ex_expr
    rfl
    apply ev_meth
    rfl
    exact ev_local rfl rfl rfl
    exact m_append (sqP (.tail _ (.head _)))
    first | exact .inl ⟨_, rfl⟩ | exact .inr (.inl ⟨_, rfl⟩) | exact .inr (.inr (by kernel_rfl))
    apply as_cons
    rfl
    rfl
    apply ev_cmp
    rfl
    apply ev_compF (r.right) (dN) (dN) (fun s => !hvB g s)
    rfl
    exact ⟨rfl, rfl, rfl, rfl, fun _ => rfl⟩
    apply srcE (d := .tup (r.right.map dN))
    exact lR rfl rfl rfl rfl
    exact src_tup hB.hh fun _ _ => rfl
    exact sz64 (hg.lz r hm)
    · refine fun C T s hs => ⟨_, Bnd.asg rfl (bnd_local rfl (.head _) Up.head), ?_, fun hp => ?_⟩
      · apply ask_not
        rfl
        apply ask_plain
        apply ev_item
        rfl
        apply ev_cell
        rfl
        rfl
        rfl
        first | exact .head _ | exact .tail _ (.head _) | exact .tail _ (.tail _ (.head _)) | exact .tail _ (.tail _ (.tail _ (.head _))) | exact .tail _ (.tail _ (.tail _ (.tail _ (.head _)))) | exact .tail _ (.tail _ (.tail _ (.tail _ (.tail _ (.head _))))) | exact .tail _ (.tail _ (.tail _ (.tail _ (.tail _ (.tail _ (.head _))))))
        exact ev_local rfl rfl rfl
        exact sq
        exact bL_at (hg.right r hm s hs)
        exact sz64 (by have := hg.right r hm s hs; omega)
        exact fun _ _ => rfl
        exact fun _ => rfl
      · exact ev_local rfl rfl rfl
    exact ev_nil rfl
    exact op_eqNilN hB
    rfl
    exact as_nil
    exact cd_append (.tail _ (.head _)) (Up.tail Up.head) (by rw [List.length_map, List.length_take]; exact sz64 (by omega))
    rfl
    rfl
    refine Ex.ns (m' := [("found", .ptr l), ("grammar", dGram X g)]) ?_ (nsk_cons rfl (nsk_cons rfl nsk_nil))
    refine ex_end rfl ⟨.inl rfl, (L, P.ns [("found", .ptr l), ("grammar", dGram X g)]) :: (l, P.lst ((g.rules.take (j + 1)).map fun r => D.bool (usB g r))) :: (L + 1, P.cell (some (.lst (bL g.names.length (hvB g))))) :: H, ?_, rfl⟩
    rw [List.take_succ_eq_append_getElem hj, show g.rules[j] = r from (List.getElem?_eq_some_iff.mp hr).2, List.map_append]
    rfl
  · subst hJ
    rw [List.length_map, List.take_length, ubB_map]
    apply ex_ret
    rfl
    apply Ev.frz (ev_local rfl rfl rfl)
    repeat (first | apply Pull.head | apply Pull.tail)
    exact ⟨.inl rfl, .skip (.skip .rfl)⟩
end
end Mine
namespace Mine
noncomputable abbrev fdUL : FuncData := fdOf (topAt 15) "" .none pmA 208
noncomputable abbrev fdIR : FuncData := fdOf (topAt 17) "" .none pmA 220
noncomputable abbrev fdRS : FuncData := fdOf (topAt 6) "" .none pmG 141
noncomputable def nm (g : Gram) (x : Nat) : Str := g.names.getD x ""
theorem nm_at {g : Gram} {x : Nat} (h : x < g.names.length) : g.names[x]? = some (nm g x) := by unfold nm; rw [List.getD_eq_getElem?_getD, List.getElem?_eq_getElem h]; rfl
noncomputable def nts (g : Gram) : List Nat := (List.range (g.names.length - (g.tc + 1))).map fun j => g.tc + 1 + j
noncomputable def wlOf (g : Gram) (xs : List Nat) : List Str := (xs.filter fun x => !hvB g x).map (nm g)
noncomputable def urOf (g : Gram) (xs : List Nat) : List Str := (xs.filter fun x => hvB g x && !ndB g x).map (nm g)
noncomputable def ltOf (g : Gram) : List Nat := (g.rules.filter fun r => !usB g r || !ndB g r.left).map fun r => r.num
noncomputable def dTri (a b : List Str) (c : List Nat) : D := .tup [.lst (a.map .str), .lst (b.map .str), .lst (c.map dN)]
noncomputable def pTri (a b : List Str) (c : List Nat) : PyData := .tuple [.list (a.map .str), .list (b.map .str), .list (c.map fun x : Nat => .int x)]
theorem rd_tri {a b : List Str} {c : List Nat} : Rd (dTri a b c) (pTri a b c) := rd_tup (.cons (rd_lst rdl_strs) (.cons (rd_lst rdl_strs) (.cons (rd_lst (RdL.map fun x _ => rd_int)) .nil)))
theorem lay_tri {a b : List Str} {c : List Nat} (ha : SOk a) (hb : SOk b) : (pTri a b c).canLay0 = true := by
  have h3 : PyData.canLayAll0 (c.map fun x : Nat => PyData.int x) = true := lays_map fun _ _ => rfl
  show (PyData.canLayAll0 _ && (PyData.canLayAll0 _ && (PyData.canLayAll0 _ && true))) = true
  rw [ha.lay, hb.lay, h3]; rfl
theorem depth_ints {c : List Nat} : PyData.depthAll (c.map fun x : Nat => PyData.int x) = 0 := by
  induction c with
  | nil => rfl
  | cons x xs ih => show max 0 (PyData.depthAll (xs.map fun x : Nat => PyData.int x)) = 0; rw [ih]; rfl
theorem depth_tri {a b : List Str} {c : List Nat} : (pTri a b c).depth ≤ 99 := by
  show max (PyData.depthAll (a.map .str) + 1) (max (PyData.depthAll (b.map .str) + 1) (max (PyData.depthAll (c.map fun x : Nat => PyData.int x) + 1) 0)) + 1 ≤ 99
  rw [depth_strs, depth_strs, depth_ints]; decide
theorem eqvAll_strs {a b : List Str} : PyData.eqvAll (a.map .str) (b.map .str) = (a == b) := by
  induction a generalizing b with
  | nil => cases b <;> rfl
  | cons x a ih => cases b with
    | nil => rfl
    | cons y b =>
      show (PyData.eqv (.str x) (.str y) && PyData.eqvAll (a.map .str) (b.map .str)) = _
      rw [ih, show PyData.eqv (.str x) (.str y) = (x == y) from by rw [PyData.eqv.eq_def]]; rfl
theorem eqvAll_ints {a b : List Nat} : PyData.eqvAll (a.map fun x : Nat => .int x) (b.map fun x : Nat => .int x) = (a == b) := by
  induction a generalizing b with
  | nil => cases b <;> rfl
  | cons x a ih => cases b with
    | nil => rfl
    | cons y b =>
      show (PyData.eqv (.int x) (.int y) && PyData.eqvAll (a.map fun x : Nat => .int x) (b.map fun x : Nat => .int x)) = _
      rw [ih, show PyData.eqv (.int x) (.int y) = ((x : Int) == (y : Int)) from by rw [PyData.eqv.eq_def], show ((x : Int) == (y : Int)) = (x == y) from by rw [Bool.eq_iff_iff, beq_iff_eq, beq_iff_eq]; exact Int.ofNat_inj]; rfl
theorem eqv_tri {a b a' b' : List Str} {c c' : List Nat} : PyData.eqv (pTri a b c) (pTri a' b' c') = (a == a' && (b == b' && c == c')) := by
  show PyData.eqvAll _ _ = _
  show (PyData.eqv (.list _) (.list _) && (PyData.eqv (.list _) (.list _) && (PyData.eqv (.list _) (.list _) && true))) = _
  rw [show ∀ x y, PyData.eqv (.list x) (.list y) = PyData.eqvAll x y from fun x y => by rw [PyData.eqv.eq_def], eqvAll_strs]
  rw [show ∀ x y, PyData.eqv (.list x) (.list y) = PyData.eqvAll x y from fun x y => by rw [PyData.eqv.eq_def], eqvAll_strs]
  rw [show ∀ x y, PyData.eqv (.list x) (.list y) = PyData.eqvAll x y from fun x y => by rw [PyData.eqv.eq_def], eqvAll_ints, Bool.and_true]
section
variable {X : Cx} {A : Around} {H : Hs} {n : Nat} {g : Gram}
theorem op_eqTri {a b a' b' : List Str} {c c' : List Nat} (hA : Rm A n) (ha : SOk a) (hb : SOk b) (ha' : SOk a') (hb' : SOk b') : Op2 X A (compareOp .Eq) (dTri a b c) (dTri a' b' c') H (.bool (a == a' && (b == b' && c == c'))) H := by
  have := op_eq (X := X) (A := A) (H := H) (rd_tri (a := a) (b := b) (c := c)).s (rd_tri (a := a') (b := b') (c := c')).s (lay_tri ha hb) (lay_tri ha' hb') (hA.fit (Nat.le_trans (Nat.min_le_left _ _) depth_tri))
  rwa [eqv_tri] at this
theorem op_neTri {a b a' b' : List Str} {c c' : List Nat} (hA : Rm A n) (ha : SOk a) (hb : SOk b) (ha' : SOk a') (hb' : SOk b') : Op2 X A (compareOp .NotEq) (dTri a b c) (dTri a' b' c') H (.bool (!(a == a' && (b == b' && c == c')))) H := by
  have := op_ne (X := X) (A := A) (H := H) (rd_tri (a := a) (b := b) (c := c)).s (rd_tri (a := a') (b := b') (c := c')).s (lay_tri ha hb) (lay_tri ha' hb') (hA.fit (Nat.le_trans (Nat.min_le_left _ _) depth_tri))
  rwa [eqv_tri] at this
noncomputable def dUseless (g : Gram) : D := dTri (wlOf g (nts g)) (urOf g (nts g)) (ltOf g)
theorem cd_range2N {a b : Int} {p q : Nat} (ha : a = p) (hb : b = q) : CallD X A (.type "range") [.int a, .int b] H (.rng p q) H := ha ▸ hb ▸ cd_range2
theorem wl_yes {xs : List Nat} {x : Nat} (h : hvB g x = false) : wlOf g (xs ++ [x]) = wlOf g xs ++ [nm g x] := by
  unfold wlOf; rw [List.filter_append, List.map_append]; simp [h]
theorem wl_no {xs : List Nat} {x : Nat} (h : hvB g x = true) : wlOf g (xs ++ [x]) = wlOf g xs := by
  unfold wlOf; rw [List.filter_append, List.map_append]; simp [h]
theorem ur_yes {xs : List Nat} {x : Nat} (h : (hvB g x && !ndB g x) = true) : urOf g (xs ++ [x]) = urOf g xs ++ [nm g x] := by
  unfold urOf; rw [List.filter_append, List.map_append, List.filter_cons, if_pos h]; rfl
theorem ur_no {xs : List Nat} {x : Nat} (h : (hvB g x && !ndB g x) = false) : urOf g (xs ++ [x]) = urOf g xs := by
  unfold urOf; rw [List.filter_append, List.map_append, List.filter_cons, h, if_neg Bool.false_ne_true]; simp
theorem r_at (hg : g.Ok) {r : RuleD} (hr : r ∈ g.rules) : g.rules[r.num]? = some r := by
  obtain ⟨k, hk⟩ := List.mem_iff_getElem?.mp hr
  rw [hg.num k r hk]; exact hk
theorem r_num (hg : g.Ok) {r : RuleD} (hr : r ∈ g.rules) : r.num < g.rules.length := (List.getElem?_eq_some_iff.mp (r_at hg hr)).1
theorem ubB_num (hg : g.Ok) {r : RuleD} (hr : r ∈ g.rules) : ubB g r.num = usB g r := ubB_at (r_at hg hr)
theorem nts_lt {x : Nat} (h : x ∈ nts g) : x < g.names.length ∧ g.tc < x := by
  unfold nts at h
  obtain ⟨j, hj, rfl⟩ := List.mem_map.mp h
  have := List.mem_range.mp hj
  exact ⟨by omega, by omega⟩
theorem nm_mem {x : Nat} (h : x < g.names.length) : nm g x ∈ g.names := List.mem_of_getElem? (nm_at h)
theorem names_sok (hs : SOk g.names) : SOk (wlOf g (nts g)) := fun x hx => by
  unfold wlOf at hx
  obtain ⟨y, hy, rfl⟩ := List.mem_map.mp hx
  exact hs _ (nm_mem (nts_lt (List.mem_filter.mp hy).1).1)
theorem names_sok2 (hs : SOk g.names) : SOk (urOf g (nts g)) := fun x hx => by
  unfold urOf at hx
  obtain ⟨y, hy, rfl⟩ := List.mem_map.mp hx
  exact hs _ (nm_mem (nts_lt (List.mem_filter.mp hy).1).1)
theorem w_useless (hA : Rm A (n + 5)) (hg : g.Ok) : Fn X A (.ref 209) [dGram X g] H (dUseless g) H := by
  refine fn_inC (fd := fdUL) (c := 208) (ks := ["grammar"]) (cn := ["needed", "usable"]) (cs := fun n => [("needed", n + 1), ("usable", n)]) (ds := [dGram X g]) rfl rfl rfl rfl hA.lt rfl (fun _ => rfl) rfl rfl (fun _ => rfl) (fun _ => rfl) fun L => ?_
  show Ex X _ _ ((L, P.ns [("grammar", dGram X g)]) :: (L + 2, P.cell none) :: (L + 1, P.cell none) :: H) _
  have hB : Rm (A.deeper (callEnvC fdUL L 209)) (n + 4) := hA.deeper
  have hnz := hg.nz
  have hrz := hg.rz
  have htc := hg.tc
  apply ex_assign
  rfl
  apply call1
  rfl
  rfl
  rfl
  exact ev_global rfl rfl rfl
  first | exact .inl ⟨_, rfl⟩ | exact .inr (.inl ⟨_, rfl⟩) | exact .inr (.inr (by kernel_rfl))
  exact ev_local rfl rfl rfl
  exact (w_productive (n := n + 1) hB hg).call
  exact bnd_local rfl (.head _) Up.head
  rfl
  apply ex_assign
  rfl
  apply call1
  rfl
  rfl
  rfl
  exact ev_global rfl rfl rfl
  first | exact .inl ⟨_, rfl⟩ | exact .inr (.inl ⟨_, rfl⟩) | exact .inr (.inr (by kernel_rfl))
  exact ev_local rfl rfl rfl
  exact (w_useful (n := n) hB hg).call
  apply bnd_cell
  rfl
  rfl
  first | exact .head _ | exact .tail _ (.head _) | exact .tail _ (.tail _ (.head _)) | exact .tail _ (.tail _ (.tail _ (.head _))) | exact .tail _ (.tail _ (.tail _ (.tail _ (.head _)))) | exact .tail _ (.tail _ (.tail _ (.tail _ (.tail _ (.head _))))) | exact .tail _ (.tail _ (.tail _ (.tail _ (.tail _ (.tail _ (.head _))))))
  first | exact Up.head | exact Up.tail Up.head | exact Up.tail (Up.tail Up.head) | exact Up.tail (Up.tail (Up.tail Up.head)) | exact Up.tail (Up.tail (Up.tail (Up.tail Up.head))) | exact Up.tail (Up.tail (Up.tail (Up.tail (Up.tail Up.head)))) | exact Up.tail (Up.tail (Up.tail (Up.tail (Up.tail (Up.tail Up.head)))))
  rfl
  apply ex_assign
  rfl
  apply ev_call
  rfl
  exact ev_global rfl rfl rfl
  first | exact .inl ⟨_, rfl⟩ | exact .inr (.inl ⟨_, rfl⟩) | exact .inr (.inr (by kernel_rfl))
  apply as_cons
  rfl
  rfl
  exact ev_local rfl rfl rfl
  apply as_cons
  rfl
  rfl
  apply ev_cell
  rfl
  rfl
  rfl
  first | exact .head _ | exact .tail _ (.head _) | exact .tail _ (.tail _ (.head _)) | exact .tail _ (.tail _ (.tail _ (.head _))) | exact .tail _ (.tail _ (.tail _ (.tail _ (.head _)))) | exact .tail _ (.tail _ (.tail _ (.tail _ (.tail _ (.head _))))) | exact .tail _ (.tail _ (.tail _ (.tail _ (.tail _ (.tail _ (.head _))))))
  exact as_nil
  exact (w_reached (n := n + 2) hB hg (ub := ubB g)).call
  apply bnd_cell
  rfl
  rfl
  first | exact .head _ | exact .tail _ (.head _) | exact .tail _ (.tail _ (.head _)) | exact .tail _ (.tail _ (.tail _ (.head _))) | exact .tail _ (.tail _ (.tail _ (.tail _ (.head _)))) | exact .tail _ (.tail _ (.tail _ (.tail _ (.tail _ (.head _))))) | exact .tail _ (.tail _ (.tail _ (.tail _ (.tail _ (.tail _ (.head _))))))
  first | exact Up.head | exact Up.tail Up.head | exact Up.tail (Up.tail Up.head) | exact Up.tail (Up.tail (Up.tail Up.head)) | exact Up.tail (Up.tail (Up.tail (Up.tail Up.head))) | exact Up.tail (Up.tail (Up.tail (Up.tail (Up.tail Up.head)))) | exact Up.tail (Up.tail (Up.tail (Up.tail (Up.tail (Up.tail Up.head)))))
  rfl
  apply ex_newL
  rfl
  rfl
  apply new_list
  rfl
  exact as_nil
  rfl
  rfl
  intro w
  apply ex_newL
  rfl
  rfl
  apply new_list
  rfl
  exact as_nil
  rfl
  rfl
  intro u
  refine ex_for (Z := []) (H₁ := (L, P.ns [("unreached", .ptr u), ("wordless", .ptr w), ("having", .lst (bL g.names.length (hvB g))), ("grammar", dGram X g)]) :: (u, P.lst ((([] : List Str)).map .str)) :: (w, P.lst ((([] : List Str)).map .str)) :: (L + 2, P.cell (some (.lst (bL g.names.length (ndB g))))) :: (L + 1, P.cell (some (.lst (bL g.rules.length (ubB g))))) :: H) (items := upFrom ((g.tc + 1 : Nat) : Int) (g.names.length - (g.tc + 1))) rfl ?_ (fun j K => K = (L, P.ns [("unreached", .ptr u), ("wordless", .ptr w), ("having", .lst (bL g.names.length (hvB g))), ("grammar", dGram X g)]) :: (u, P.lst ((urOf g ((nts g).take j)).map .str)) :: (w, P.lst ((wlOf g ((nts g).take j)).map .str)) :: (L + 2, P.cell (some (.lst (bL g.names.length (ndB g))))) :: (L + 1, P.cell (some (.lst (bL g.rules.length (ubB g))))) :: H) rfl (fun _ => rfl) (fun T j K d hJ hd => ?_) fun K hJ => ?_
  · apply srcE (d := .rng (g.tc + 1 : Nat) (g.names.length : Nat))
    apply ev_call
    rfl
    exact ev_builtin rfl rfl rfl boot_range
    first | exact .inl ⟨_, rfl⟩ | exact .inr (.inl ⟨_, rfl⟩) | exact .inr (.inr (by kernel_rfl))
    apply as_cons
    rfl
    rfl
    apply ev_bin
    rfl
    exact lG rfl rfl rfl rfl
    exact ev_int rfl
    exact op_add
    apply as_cons
    rfl
    rfl
    apply ev_meth
    rfl
    exact ev_local rfl rfl rfl
    exact meth_obj clsG rfl rfl rfl
    first | exact .inl ⟨_, rfl⟩ | exact .inr (.inl ⟨_, rfl⟩) | exact .inr (.inr (by kernel_rfl))
    exact as_nil
    exact (w_symbol_count (n := n + 3) hB hg).call
    exact as_nil
    exact cd_range2N (p := g.tc + 1) (q := g.names.length) rfl rfl
    exact src_range2 hB.hh (fun _ _ => rfl) htc hnz
  · subst hJ
    obtain ⟨hj, rfl⟩ := upFrom_get hd
    have hx : g.tc + 1 + j < g.names.length := by omega
    have hnt : (nts g)[j]? = some (g.tc + 1 + j) := by unfold nts; rw [List.getElem?_map, List.getElem?_range hj]; rfl
    have hjl : j < (nts g).length := (List.getElem?_eq_some_iff.mp hnt).1
    have hje : (nts g)[j] = g.tc + 1 + j := (List.getElem?_eq_some_iff.mp hnt).2
    have hnl : (nts g).length ≤ 64 := by unfold nts; rw [List.length_map, List.length_range]; omega
    have hwz : ((wlOf g ((nts g).take j)).map D.str).length ≤ sizeLine := by rw [List.length_map]; unfold wlOf; rw [List.length_map]; exact sz64 (Nat.le_trans (List.length_filter_le _ _) (by rw [List.length_take]; omega))
    have huz : ((urOf g ((nts g).take j)).map D.str).length ≤ sizeLine := by rw [List.length_map]; unfold urOf; rw [List.length_map]; exact sz64 (Nat.le_trans (List.length_filter_le _ _) (by rw [List.length_take]; omega))
    have hsy : D.int (((g.tc + 1 : Nat) : Int) + (j : Int)) = dN (g.tc + 1 + j) := rfl
    rw [hsy]
    have ht := List.take_succ_eq_append_getElem hjl
    rw [hje] at ht
    refine ⟨_, Bnd.asg rfl (bnd_local rfl (.head _) Up.head), ?_⟩
    apply ex_if
    rfl
    apply ask_not
    rfl
    apply ask_plain
    apply ev_item
    rfl
    exact ev_local rfl rfl rfl
    exact ev_local rfl rfl rfl
    exact sq
    exact bL_at hx
    exact sz64 (by omega)
    exact fun _ _ => rfl
    exact fun _ => rfl
    · intro hT
      have hv : hvB g (g.tc + 1 + j) = false := by cases h : hvB g (g.tc + 1 + j) <;> rw [h] at hT <;> first | rfl | cases hT
      apply ex_expr
      rfl
      apply ev_meth
      rfl
      exact ev_local rfl rfl rfl
      exact m_append (sqP (.tail _ (.tail _ (.head _))))
      first | exact .inl ⟨_, rfl⟩ | exact .inr (.inl ⟨_, rfl⟩) | exact .inr (.inr (by kernel_rfl))
      apply as_cons
      rfl
      rfl
      apply ev_item
      rfl
      exact lG rfl rfl rfl rfl
      exact ev_local rfl rfl rfl
      exact sq
      exact map_at (nm_at hx)
      exact sz64 (by omega)
      exact fun _ _ => rfl
      exact as_nil
      exact cd_append (.tail _ (.tail _ (.head _))) (Up.tail (Up.tail Up.head)) hwz
      rfl
      rfl
      refine ex_end rfl (thn ?_)
      refine Ex.ns (m' := [("unreached", .ptr u), ("wordless", .ptr w), ("having", .lst (bL g.names.length (hvB g))), ("grammar", dGram X g)]) ?_ (nsk_cons rfl (nsk_cons rfl (nsk_cons rfl (nsk_cons rfl nsk_nil))))
      refine ex_end rfl ⟨.inl rfl, (L, P.ns [("unreached", .ptr u), ("wordless", .ptr w), ("having", .lst (bL g.names.length (hvB g))), ("grammar", dGram X g)]) :: (u, P.lst ((urOf g ((nts g).take (j + 1))).map .str)) :: (w, P.lst ((wlOf g ((nts g).take (j + 1))).map .str)) :: (L + 2, P.cell (some (.lst (bL g.names.length (ndB g))))) :: (L + 1, P.cell (some (.lst (bL g.rules.length (ubB g))))) :: H, ?_, rfl⟩
      rw [ht, wl_yes hv, ur_no (by rw [hv]; rfl), List.map_append]
      rfl
    · intro hF
      have hv : hvB g (g.tc + 1 + j) = true := by cases h : hvB g (g.tc + 1 + j) <;> rw [h] at hF <;> first | rfl | cases hF
      apply ex_if
      rfl
      apply ask_not
      rfl
      apply ask_plain
      apply ev_item
      rfl
      apply ev_cell
      rfl
      rfl
      rfl
      first | exact .head _ | exact .tail _ (.head _) | exact .tail _ (.tail _ (.head _)) | exact .tail _ (.tail _ (.tail _ (.head _))) | exact .tail _ (.tail _ (.tail _ (.tail _ (.head _)))) | exact .tail _ (.tail _ (.tail _ (.tail _ (.tail _ (.head _))))) | exact .tail _ (.tail _ (.tail _ (.tail _ (.tail _ (.tail _ (.head _))))))
      exact ev_local rfl rfl rfl
      exact sq
      exact bL_at hx
      exact sz64 (by omega)
      exact fun _ _ => rfl
      exact fun _ => rfl
      · intro hT2
        have hn : ndB g (g.tc + 1 + j) = false := by cases h : ndB g (g.tc + 1 + j) <;> rw [h] at hT2 <;> first | rfl | cases hT2
        apply ex_expr
        rfl
        apply ev_meth
        rfl
        exact ev_local rfl rfl rfl
        exact m_append (sqP (.tail _ (.head _)))
        first | exact .inl ⟨_, rfl⟩ | exact .inr (.inl ⟨_, rfl⟩) | exact .inr (.inr (by kernel_rfl))
        apply as_cons
        rfl
        rfl
        apply ev_item
        rfl
        exact lG rfl rfl rfl rfl
        exact ev_local rfl rfl rfl
        exact sq
        exact map_at (nm_at hx)
        exact sz64 (by omega)
        exact fun _ _ => rfl
        exact as_nil
        exact cd_append (.tail _ (.head _)) (Up.tail Up.head) huz
        rfl
        rfl
        refine ex_end rfl (thn (ex_end rfl (thn ?_)))
        refine Ex.ns (m' := [("unreached", .ptr u), ("wordless", .ptr w), ("having", .lst (bL g.names.length (hvB g))), ("grammar", dGram X g)]) ?_ (nsk_cons rfl (nsk_cons rfl (nsk_cons rfl (nsk_cons rfl nsk_nil))))
        refine ex_end rfl ⟨.inl rfl, (L, P.ns [("unreached", .ptr u), ("wordless", .ptr w), ("having", .lst (bL g.names.length (hvB g))), ("grammar", dGram X g)]) :: (u, P.lst ((urOf g ((nts g).take (j + 1))).map .str)) :: (w, P.lst ((wlOf g ((nts g).take (j + 1))).map .str)) :: (L + 2, P.cell (some (.lst (bL g.names.length (ndB g))))) :: (L + 1, P.cell (some (.lst (bL g.rules.length (ubB g))))) :: H, ?_, rfl⟩
        rw [ht, wl_no hv, ur_yes (by rw [hv, hn]; rfl), List.map_append]
        rfl
      · intro hF2
        have hn : ndB g (g.tc + 1 + j) = true := by cases h : ndB g (g.tc + 1 + j) <;> rw [h] at hF2 <;> first | rfl | cases hF2
        refine ex_end rfl (thn (ex_end rfl (thn ?_)))
        refine Ex.ns (m' := [("unreached", .ptr u), ("wordless", .ptr w), ("having", .lst (bL g.names.length (hvB g))), ("grammar", dGram X g)]) ?_ (nsk_cons rfl (nsk_cons rfl (nsk_cons rfl (nsk_cons rfl nsk_nil))))
        refine ex_end rfl ⟨.inl rfl, (L, P.ns [("unreached", .ptr u), ("wordless", .ptr w), ("having", .lst (bL g.names.length (hvB g))), ("grammar", dGram X g)]) :: (u, P.lst ((urOf g ((nts g).take (j + 1))).map .str)) :: (w, P.lst ((wlOf g ((nts g).take (j + 1))).map .str)) :: (L + 2, P.cell (some (.lst (bL g.names.length (ndB g))))) :: (L + 1, P.cell (some (.lst (bL g.rules.length (ubB g))))) :: H, ?_, rfl⟩
        rw [ht, wl_no hv, ur_no (by rw [hv, hn]; rfl)]
        rfl
  · subst hJ
    rw [upFrom_len, show (nts g).take (g.names.length - (g.tc + 1)) = nts g from List.take_of_length_le (by unfold nts; rw [List.length_map, List.length_range]; exact Nat.le_refl _)]
    apply ex_compF (g.rules) (dRule) (fun r => dN r.num) (fun r => !usB g r || !ndB g r.left)
    rfl
    rfl
    exact ⟨rfl, rfl, rfl, rfl, fun _ => rfl⟩
    apply srcE (d := .lst (g.rules.map dRule))
    exact lG rfl rfl rfl rfl
    exact src_list hB.hh fun _ _ => rfl
    exact sz64 hrz
    · refine fun C T r hr => ⟨_, Bnd.asg rfl (bnd_local rfl (.head _) Up.head), ?_, fun hp => ?_⟩
      · apply ask_or
        rfl
        apply ask_not
        rfl
        apply ask_plain
        apply ev_item
        rfl
        apply ev_cell
        rfl
        rfl
        rfl
        first | exact .head _ | exact .tail _ (.head _) | exact .tail _ (.tail _ (.head _)) | exact .tail _ (.tail _ (.tail _ (.head _))) | exact .tail _ (.tail _ (.tail _ (.tail _ (.head _)))) | exact .tail _ (.tail _ (.tail _ (.tail _ (.tail _ (.head _))))) | exact .tail _ (.tail _ (.tail _ (.tail _ (.tail _ (.tail _ (.head _))))))
        exact lR rfl rfl rfl rfl
        exact sq
        exact (bL_at (r_num hg hr)).trans (congrArg (fun b => some (D.bool b)) (ubB_num hg hr))
        exact sz64 (by have := r_num hg hr; omega)
        exact fun _ _ => rfl
        exact fun _ => rfl
        intro hO
        apply ask_not
        rfl
        apply ask_plain
        apply ev_item
        rfl
        apply ev_cell
        rfl
        rfl
        rfl
        first | exact .head _ | exact .tail _ (.head _) | exact .tail _ (.tail _ (.head _)) | exact .tail _ (.tail _ (.tail _ (.head _))) | exact .tail _ (.tail _ (.tail _ (.tail _ (.head _)))) | exact .tail _ (.tail _ (.tail _ (.tail _ (.tail _ (.head _))))) | exact .tail _ (.tail _ (.tail _ (.tail _ (.tail _ (.tail _ (.head _))))))
        exact lR rfl rfl rfl rfl
        exact sq
        exact bL_at (hg.left r hr)
        exact sz64 (by have := hg.left r hr; omega)
        exact fun _ _ => rfl
        exact fun _ => rfl
        exact fun _ => rfl
      · exact lR rfl rfl rfl rfl
    exact fun C => bnd_local rfl (.tail _ (.head _)) (Up.tail Up.head)
    rfl
    apply ex_ret
    rfl
    apply ev_tup
    rfl
    apply as_cons
    rfl
    rfl
    apply Ev.frz (ev_local rfl rfl rfl)
    repeat (first | apply Pull.head | apply Pull.tail)
    apply as_cons
    rfl
    rfl
    apply Ev.frz (ev_local rfl rfl rfl)
    repeat (first | apply Pull.head | apply Pull.tail)
    apply as_cons
    rfl
    rfl
    exact ev_local rfl rfl rfl
    exact as_nil
    rfl
    refine ⟨.inl ?_, .skip (.skip (.skip .rfl))⟩
    unfold dUseless dTri ltOf
    rw [List.map_map]
    rfl
theorem w_isred (hA : Rm A (n + 6)) (hg : g.Ok) (hs : SOk g.names) : Fn X A (.ref 221) [dGram X g] H (.bool (wlOf g (nts g) == [] && (urOf g (nts g) == [] && ltOf g == []))) H := by
  refine fn_inC (fd := fdIR) (c := 220) (ks := ["grammar"]) (cn := []) (cs := fun n => []) (ds := [dGram X g]) rfl rfl rfl rfl hA.lt rfl (fun _ => rfl) rfl rfl (fun _ => rfl) (fun _ => rfl) fun L => ?_
  show Ex X _ _ ((L, P.ns [("grammar", dGram X g)]) :: H) _
  have hB : Rm (A.deeper (callEnvC fdIR L 221)) (n + 5) := hA.deeper
  apply ex_ret
  rfl
  apply ev_cmp
  rfl
  apply call1
  rfl
  rfl
  rfl
  exact ev_global rfl rfl rfl
  first | exact .inl ⟨_, rfl⟩ | exact .inr (.inl ⟨_, rfl⟩) | exact .inr (.inr (by kernel_rfl))
  exact ev_local rfl rfl rfl
  exact (w_useless (n := n) hB hg).call
  apply ev_tup
  rfl
  apply as_cons
  rfl
  rfl
  exact ev_nil rfl
  apply as_cons
  rfl
  rfl
  exact ev_nil rfl
  apply as_cons
  rfl
  rfl
  exact ev_nil rfl
  exact as_nil
  rfl
  exact op_eqTri (a' := []) (b' := []) (c' := []) hB (names_sok hs) (names_sok2 hs) (fun x hx => (List.not_mem_nil hx).elim) (fun x hx => (List.not_mem_nil hx).elim)
  rfl
  exact ⟨.inl rfl, .skip .rfl⟩
end
end Mine
namespace Mine
noncomputable abbrev fdRD : FuncData := fdOf (topAt 16) "" .none pmA 213
noncomputable def keepN (g : Gram) (sb : Nat → Bool) (x : Nat) : Bool := decide (x ≤ g.tc) || sb x
noncomputable def plc (g : Gram) (sb : Nat → Bool) (x : Nat) : Nat := ((List.range x).filter (keepN g sb)).length
noncomputable def keepR (rb : Nat → Bool) (r : RuleD) : Bool := r.num == 0 || rb r.num
noncomputable def mkK (g : Gram) (sb : Nat → Bool) (i : Nat) (r : RuleD) : RuleD := ⟨i, plc g sb r.left, r.right.map (plc g sb), r.lev, r.act, r.line, r.before⟩
noncomputable def mkKs (g : Gram) (sb rb : Nat → Bool) (rs : List RuleD) : List RuleD := (rs.filter (keepR rb)).zipIdx.map fun q => mkK g sb q.2 q.1
noncomputable def kNames (g : Gram) (sb : Nat → Bool) (j : Nat) : List Str := ((List.range j).filter (keepN g sb)).map (nm g)
noncomputable def restr (g : Gram) (sb rb : Nat → Bool) : Gram := ⟨kNames g sb g.names.length, g.tc, mkKs g sb rb g.rules, g.lv, g.expect, plc g sb g.start⟩
noncomputable def rbOf (g : Gram) (f : RuleD → Bool) (i : Nat) : Bool := ((g.rules[i]?).map f).getD false
theorem bL_of {g : Gram} {f : RuleD → Bool} : (g.rules.map fun r => D.bool (f r)) = bL g.rules.length (rbOf g f) := by
  unfold bL
  refine List.ext_getElem? fun i => ?_
  rw [List.getElem?_map, List.getElem?_map]
  by_cases h : i < g.rules.length
  · rw [List.getElem?_range h, List.getElem?_eq_getElem h]
    unfold rbOf
    rw [Option.map_some, Option.map_some, List.getElem?_eq_getElem h]; rfl
  · rw [List.getElem?_eq_none (by omega), List.getElem?_eq_none (by rw [List.length_range]; omega)]; rfl
theorem mkKs_len {g : Gram} {sb rb : Nat → Bool} {rs : List RuleD} : (mkKs g sb rb rs).length = (rs.filter (keepR rb)).length := by unfold mkKs; rw [List.length_map, List.length_zipIdx]
theorem mkKs_yes {g : Gram} {sb rb : Nat → Bool} {rs : List RuleD} {r : RuleD} (h : keepR rb r = true) : mkKs g sb rb (rs ++ [r]) = mkKs g sb rb rs ++ [mkK g sb (mkKs g sb rb rs).length r] := by
  rw [mkKs_len]
  unfold mkKs
  rw [List.filter_append, List.filter_cons, if_pos h, List.filter_nil, List.zipIdx_append, List.map_append]
  simp
theorem mkKs_no {g : Gram} {sb rb : Nat → Bool} {rs : List RuleD} {r : RuleD} (h : keepR rb r = false) : mkKs g sb rb (rs ++ [r]) = mkKs g sb rb rs := by
  unfold mkKs
  rw [List.filter_append, List.filter_cons, h, if_neg Bool.false_ne_true, List.filter_nil, List.append_nil]
theorem kNames_len {g : Gram} {sb : Nat → Bool} {j : Nat} : (kNames g sb j).length = plc g sb j := by unfold kNames plc; rw [List.length_map]
theorem plc_le {g : Gram} {sb : Nat → Bool} {j : Nat} : plc g sb j ≤ j := by unfold plc; exact Nat.le_trans (List.length_filter_le _ _) (by rw [List.length_range]; exact Nat.le_refl _)
theorem kNames_yes {g : Gram} {sb : Nat → Bool} {j : Nat} (h : keepN g sb j = true) : kNames g sb (j + 1) = kNames g sb j ++ [nm g j] := by
  unfold kNames; rw [List.range_succ, List.filter_append, List.map_append, List.filter_cons, if_pos h]; rfl
theorem kNames_no {g : Gram} {sb : Nat → Bool} {j : Nat} (h : keepN g sb j = false) : kNames g sb (j + 1) = kNames g sb j := by
  unfold kNames; rw [List.range_succ, List.filter_append, List.map_append, List.filter_cons, h, if_neg Bool.false_ne_true]; simp
section
variable {X : Cx} {A : Around} {H : Hs} {n : Nat} {g : Gram}
theorem c_rule2 (hA : Rm A (n + 2)) {r : RuleD} {d₁ d : D} (e₁ : d₁ = dN r.num) (e : d = .tup (r.right.map dN)) : CallD X A (.ref 39) [d₁, dN r.left, d, .int r.lev, dOS r.act, .int r.line, .int r.before] H (dRule r) H := e₁ ▸ c_rule hA e
theorem w_restricted (hA : Rm A (n + 3)) (hg : g.Ok) {sb rb : Nat → Bool} (hk : (restr g sb rb).Ok) (hst : g.start < g.names.length) : Fn X A (.ref 142) [dGram X g, .lst (bL g.names.length sb), .lst (bL g.rules.length rb)] H (dGram X (restr g sb rb)) H := by
  refine fn_inC (fd := fdRS) (c := 141) (ks := ["grammar", "symbols", "rules"]) (cn := ["places"]) (cs := fun n => [("places", n)]) (ds := [dGram X g, .lst (bL g.names.length sb), .lst (bL g.rules.length rb)]) rfl rfl rfl rfl hA.lt rfl (fun _ _ _ => rfl) rfl rfl (fun _ => rfl) (fun _ => rfl) fun L => ?_
  show Ex X _ _ ((L, P.ns [("grammar", dGram X g), ("symbols", .lst (bL g.names.length sb)), ("rules", .lst (bL g.rules.length rb))]) :: (L + 1, P.cell none) :: H) _
  have hB : Rm (A.deeper (callEnvC fdRS L 142)) (n + 2) := hA.deeper
  have hnz := hg.nz
  have hrz := hg.rz
  apply ex_newC
  rfl
  rfl
  rfl
  apply new_list
  rfl
  exact as_nil
  rfl
  exact .head _
  exact fun a => Up.head
  rfl
  intro pl
  apply ex_newL
  rfl
  rfl
  apply new_list
  rfl
  exact as_nil
  rfl
  rfl
  intro nl
  refine ex_for (Z := []) (H₁ := (L, P.ns [("names", .ptr nl), ("grammar", dGram X g), ("symbols", .lst (bL g.names.length sb)), ("rules", .lst (bL g.rules.length rb))]) :: (nl, P.lst ((kNames g sb (0)).map .str)) :: (pl, P.lst ((List.range (0)).map fun x => dN (plc g sb x))) :: (L + 1, P.cell (some (.ptr pl))) :: H) (items := upFrom 0 g.names.length) rfl ?_ (fun j K => K = (L, P.ns [("names", .ptr nl), ("grammar", dGram X g), ("symbols", .lst (bL g.names.length sb)), ("rules", .lst (bL g.rules.length rb))]) :: (nl, P.lst ((kNames g sb (j)).map .str)) :: (pl, P.lst ((List.range (j)).map fun x => dN (plc g sb x))) :: (L + 1, P.cell (some (.ptr pl))) :: H) rfl (fun _ => rfl) (fun T j K d hJ hd => ?_) fun K hJ => ?_
  · apply srcE (d := .rng 0 (g.names.length : Nat))
    apply call1
    rfl
    rfl
    rfl
    exact ev_builtin rfl rfl rfl boot_range
    first | exact .inl ⟨_, rfl⟩ | exact .inr (.inl ⟨_, rfl⟩) | exact .inr (.inr (by kernel_rfl))
    apply ev_meth
    rfl
    exact ev_local rfl rfl rfl
    exact meth_obj clsG rfl rfl rfl
    first | exact .inl ⟨_, rfl⟩ | exact .inr (.inl ⟨_, rfl⟩) | exact .inr (.inr (by kernel_rfl))
    exact as_nil
    exact (w_symbol_count (n := n + 1) hB hg).call
    exact cd_rangeN rfl
    exact src_range0 hB.hh (fun _ _ => rfl) hnz
  · subst hJ
    obtain ⟨hj, rfl⟩ := upFrom_get hd
    rw [show D.int ((0 : Int) + (j : Int)) = dN j from by rw [Int.zero_add]; rfl]
    have hkp : keepN g sb j = (decide ((j : Int) ≤ (g.tc : Int)) || sb j) := by unfold keepN; rw [decide_eq_decide.mpr Int.ofNat_le]
    have hpl : ((List.range j).map fun x => dN (plc g sb x)) ++ [D.int (((kNames g sb j).map D.str).length : Nat)] = (List.range (j + 1)).map fun x => dN (plc g sb x) := by rw [List.range_succ, List.map_append, List.length_map, kNames_len]; rfl
    refine ⟨_, Bnd.asg rfl (bnd_local rfl (.head _) Up.head), ?_⟩
    apply ex_expr
    rfl
    apply ev_meth
    rfl
    apply ev_cell
    rfl
    rfl
    rfl
    first | exact .head _ | exact .tail _ (.head _) | exact .tail _ (.tail _ (.head _)) | exact .tail _ (.tail _ (.tail _ (.head _))) | exact .tail _ (.tail _ (.tail _ (.tail _ (.head _)))) | exact .tail _ (.tail _ (.tail _ (.tail _ (.tail _ (.head _))))) | exact .tail _ (.tail _ (.tail _ (.tail _ (.tail _ (.tail _ (.head _))))))
    exact m_append (sqP (.tail _ (.tail _ (.head _))))
    first | exact .inl ⟨_, rfl⟩ | exact .inr (.inl ⟨_, rfl⟩) | exact .inr (.inr (by kernel_rfl))
    apply as_cons
    rfl
    rfl
    apply call1
    rfl
    rfl
    rfl
    exact ev_builtin rfl rfl rfl boot_len
    first | exact .inl ⟨_, rfl⟩ | exact .inr (.inl ⟨_, rfl⟩) | exact .inr (.inr (by kernel_rfl))
    exact ev_local rfl rfl rfl
    exact cd_len (sqP (.tail _ (.head _))) (by rw [List.length_map, kNames_len]; exact sz64 (by have := plc_le (g := g) (sb := sb) (j := j); omega))
    exact as_nil
    exact cd_append (.tail _ (.tail _ (.head _))) (Up.tail (Up.tail Up.head)) (by rw [List.length_map, List.length_range]; exact sz64 (by omega))
    rfl
    rfl
    rw [hpl]
    apply ex_if
    rfl
    apply ask_or
    rfl
    apply ask_cmp
    rfl
    exact ev_local rfl rfl rfl
    exact lG rfl rfl rfl rfl
    exact op_le
    rfl
    intro hO
    apply ask_plain
    apply ev_item
    rfl
    exact ev_local rfl rfl rfl
    exact ev_local rfl rfl rfl
    exact sq
    exact bL_at hj
    exact sz64 (by omega)
    exact fun _ _ => rfl
    exact fun _ => rfl
    exact fun _ => rfl
    · intro hT
      apply ex_expr
      rfl
      apply ev_meth
      rfl
      exact ev_local rfl rfl rfl
      exact m_append (sqP (.tail _ (.head _)))
      first | exact .inl ⟨_, rfl⟩ | exact .inr (.inl ⟨_, rfl⟩) | exact .inr (.inr (by kernel_rfl))
      apply as_cons
      rfl
      rfl
      apply ev_item
      rfl
      exact lG rfl rfl rfl rfl
      exact ev_local rfl rfl rfl
      exact sq
      exact map_at (nm_at hj)
      exact sz64 (by omega)
      exact fun _ _ => rfl
      exact as_nil
      exact cd_append (.tail _ (.head _)) (Up.tail Up.head) (by rw [List.length_map, kNames_len]; exact sz64 (by have := plc_le (g := g) (sb := sb) (j := j); omega))
      rfl
      rfl
      refine ex_end rfl (thn ?_)
      refine Ex.ns (m' := [("names", .ptr nl), ("grammar", dGram X g), ("symbols", .lst (bL g.names.length sb)), ("rules", .lst (bL g.rules.length rb))]) ?_ (nsk_cons rfl (nsk_cons rfl (nsk_cons rfl (nsk_cons rfl nsk_nil))))
      refine ex_end rfl ⟨.inl rfl, (L, P.ns [("names", .ptr nl), ("grammar", dGram X g), ("symbols", .lst (bL g.names.length sb)), ("rules", .lst (bL g.rules.length rb))]) :: (nl, P.lst ((kNames g sb (j + 1)).map .str)) :: (pl, P.lst ((List.range (j + 1)).map fun x => dN (plc g sb x))) :: (L + 1, P.cell (some (.ptr pl))) :: H, ?_, rfl⟩
      rw [kNames_yes (hkp.trans hT), List.map_append]
      rfl
    · intro hF
      refine ex_end rfl (thn ?_)
      refine Ex.ns (m' := [("names", .ptr nl), ("grammar", dGram X g), ("symbols", .lst (bL g.names.length sb)), ("rules", .lst (bL g.rules.length rb))]) ?_ (nsk_cons rfl (nsk_cons rfl (nsk_cons rfl (nsk_cons rfl nsk_nil))))
      refine ex_end rfl ⟨.inl rfl, (L, P.ns [("names", .ptr nl), ("grammar", dGram X g), ("symbols", .lst (bL g.names.length sb)), ("rules", .lst (bL g.rules.length rb))]) :: (nl, P.lst ((kNames g sb (j + 1)).map .str)) :: (pl, P.lst ((List.range (j + 1)).map fun x => dN (plc g sb x))) :: (L + 1, P.cell (some (.ptr pl))) :: H, ?_, rfl⟩
      rw [kNames_no (hkp.trans hF)]
      rfl
  · subst hJ
    rw [upFrom_len]
    apply ex_newL
    rfl
    rfl
    apply new_list
    rfl
    exact as_nil
    rfl
    rfl
    intro kl
    refine ex_for (Z := []) (H₁ := (L, P.ns [("kept", .ptr kl), ("names", .ptr nl), ("grammar", dGram X g), ("symbols", .lst (bL g.names.length sb)), ("rules", .lst (bL g.rules.length rb))]) :: (kl, P.lst ((mkKs g sb rb ([])).map dRule)) :: (nl, P.lst ((kNames g sb g.names.length).map .str)) :: (pl, P.lst ((List.range (g.names.length)).map fun x => dN (plc g sb x))) :: (L + 1, P.cell (some (.ptr pl))) :: H) (items := g.rules.map dRule) rfl ?_ (fun j K => K = (L, P.ns [("kept", .ptr kl), ("names", .ptr nl), ("grammar", dGram X g), ("symbols", .lst (bL g.names.length sb)), ("rules", .lst (bL g.rules.length rb))]) :: (kl, P.lst ((mkKs g sb rb (g.rules.take j)).map dRule)) :: (nl, P.lst ((kNames g sb g.names.length).map .str)) :: (pl, P.lst ((List.range (g.names.length)).map fun x => dN (plc g sb x))) :: (L + 1, P.cell (some (.ptr pl))) :: H) rfl (fun _ => rfl) (fun T j K d hJ hd => ?_) fun K hJ => ?_
    · apply srcE (d := .lst (g.rules.map dRule))
      exact lG rfl rfl rfl rfl
      exact src_list hB.hh fun _ _ => rfl
    · subst hJ
      obtain ⟨r, hr, rfl⟩ := map_get hd
      have hm := List.mem_of_getElem? hr
      have hj : j < g.rules.length := (List.getElem?_eq_some_iff.mp hr).1
      have hrn := r_num hg hm
      have hlt := hg.left r hm
      have hkz : ((mkKs g sb rb (g.rules.take j)).map dRule).length ≤ sizeLine := by rw [List.length_map, mkKs_len]; exact sz64 (Nat.le_trans (List.length_filter_le _ _) (by rw [List.length_take]; omega))
      have hkr : keepR rb r = (((r.num : Int) == 0) || rb r.num) := by unfold keepR; congr 1; rw [Bool.eq_iff_iff, beq_iff_eq, beq_iff_eq]; exact Int.ofNat_inj.symm
      have htk : g.rules.take (j + 1) = g.rules.take j ++ [r] := by rw [List.take_succ_eq_append_getElem hj, show g.rules[j] = r from (List.getElem?_eq_some_iff.mp hr).2]
      refine ⟨_, Bnd.asg rfl (bnd_local rfl (.head _) Up.head), ?_⟩
      apply ex_if
      rfl
      apply ask_or
      rfl
      apply ask_cmp
      rfl
      exact lR rfl rfl rfl rfl
      exact ev_int rfl
      exact op_eqi
      rfl
      intro hO
      apply ask_plain
      apply ev_item
      rfl
      exact ev_local rfl rfl rfl
      exact lR rfl rfl rfl rfl
      exact sq
      exact bL_at hrn
      exact sz64 (by omega)
      exact fun _ _ => rfl
      exact fun _ => rfl
      exact fun _ => rfl
      · intro hT
        apply ex_assign
        rfl
        apply call1
        rfl
        rfl
        rfl
        exact ev_builtin rfl rfl rfl boot_tuple
        first | exact .inl ⟨_, rfl⟩ | exact .inr (.inl ⟨_, rfl⟩) | exact .inr (.inr (by kernel_rfl))
        apply ev_compA (r.right) (dN) (fun s => dN (plc g sb s))
        rfl
        exact ⟨rfl, rfl, rfl, rfl, fun _ => rfl⟩
        apply srcE (d := .tup (r.right.map dN))
        exact lR rfl rfl rfl rfl
        exact src_tup hB.hh fun _ _ => rfl
        exact sz64 (hg.lz r hm)
        · refine fun C T s hs => ⟨_, Bnd.asg rfl (bnd_local rfl (.head _) Up.head), ?_⟩
          apply ev_item
          rfl
          apply ev_cell
          rfl
          rfl
          rfl
          first | exact .head _ | exact .tail _ (.head _) | exact .tail _ (.tail _ (.head _)) | exact .tail _ (.tail _ (.tail _ (.head _))) | exact .tail _ (.tail _ (.tail _ (.tail _ (.head _)))) | exact .tail _ (.tail _ (.tail _ (.tail _ (.tail _ (.head _))))) | exact .tail _ (.tail _ (.tail _ (.tail _ (.tail _ (.tail _ (.head _))))))
          exact ev_local rfl rfl rfl
          exact sqP (.tail _ (.tail _ (.tail _ (.tail _ (.head _)))))
          exact range_at (hg.right r hm s hs)
          exact sz64 (by have := hg.right r hm s hs; omega)
          exact fun _ _ => rfl
        exact cd_tuple (ds := r.right.map fun s => dN (plc g sb s)) sq (by rw [List.length_map]; exact sz64 (hg.lz r hm))
        exact bnd_local rfl (.head _) Up.head
        rfl
        apply ex_assign
        rfl
        apply ev_item
        rfl
        apply ev_cell
        rfl
        rfl
        rfl
        first | exact .head _ | exact .tail _ (.head _) | exact .tail _ (.tail _ (.head _)) | exact .tail _ (.tail _ (.tail _ (.head _))) | exact .tail _ (.tail _ (.tail _ (.tail _ (.head _)))) | exact .tail _ (.tail _ (.tail _ (.tail _ (.tail _ (.head _))))) | exact .tail _ (.tail _ (.tail _ (.tail _ (.tail _ (.tail _ (.head _))))))
        exact lR rfl rfl rfl rfl
        exact sqP (.tail _ (.tail _ (.tail _ (.head _))))
        exact range_at hlt
        exact sz64 (by omega)
        exact fun _ _ => rfl
        exact bnd_local rfl (.head _) Up.head
        rfl
        apply ex_expr
        rfl
        apply ev_meth
        rfl
        exact ev_local rfl rfl rfl
        exact m_append (sqP (.tail _ (.head _)))
        first | exact .inl ⟨_, rfl⟩ | exact .inr (.inl ⟨_, rfl⟩) | exact .inr (.inr (by kernel_rfl))
        apply as_cons
        rfl
        rfl
        apply ev_call
        rfl
        exact ev_global rfl rfl rfl
        first | exact .inl ⟨_, rfl⟩ | exact .inr (.inl ⟨_, rfl⟩) | exact .inr (.inr (by kernel_rfl))
        apply as_cons
        rfl
        rfl
        apply call1
        rfl
        rfl
        rfl
        exact ev_builtin rfl rfl rfl boot_len
        first | exact .inl ⟨_, rfl⟩ | exact .inr (.inl ⟨_, rfl⟩) | exact .inr (.inr (by kernel_rfl))
        exact ev_local rfl rfl rfl
        exact cd_len (sqP (.tail _ (.head _))) hkz
        apply as_cons
        rfl
        rfl
        exact ev_local rfl rfl rfl
        apply as_cons
        rfl
        rfl
        exact ev_local rfl rfl rfl
        apply as_cons
        rfl
        rfl
        exact lR rfl rfl rfl rfl
        apply as_cons
        rfl
        rfl
        exact lR rfl rfl rfl rfl
        apply as_cons
        rfl
        rfl
        exact lR rfl rfl rfl rfl
        apply as_cons
        rfl
        rfl
        exact lR rfl rfl rfl rfl
        exact as_nil
        exact c_rule2 (r := mkK g sb (mkKs g sb rb (g.rules.take j)).length r) hB (show D.int _ = dN _ by rw [List.length_map]; rfl) (show D.tup _ = _ from congrArg D.tup (List.map_map (g := dN) (f := plc g sb) (l := r.right)).symm)
        exact as_nil
        exact cd_append (.tail _ (.head _)) (Up.tail Up.head) hkz
        rfl
        rfl
        refine ex_end rfl (thn ?_)
        refine Ex.ns (m' := [("kept", .ptr kl), ("names", .ptr nl), ("grammar", dGram X g), ("symbols", .lst (bL g.names.length sb)), ("rules", .lst (bL g.rules.length rb))]) ?_ (nsk_cons rfl (nsk_cons rfl (nsk_cons rfl (nsk_cons rfl (nsk_cons rfl nsk_nil)))))
        refine ex_end rfl ⟨.inl rfl, (L, P.ns [("kept", .ptr kl), ("names", .ptr nl), ("grammar", dGram X g), ("symbols", .lst (bL g.names.length sb)), ("rules", .lst (bL g.rules.length rb))]) :: (kl, P.lst ((mkKs g sb rb (g.rules.take (j + 1))).map dRule)) :: (nl, P.lst ((kNames g sb g.names.length).map .str)) :: (pl, P.lst ((List.range (g.names.length)).map fun x => dN (plc g sb x))) :: (L + 1, P.cell (some (.ptr pl))) :: H, ?_, rfl⟩
        rw [htk, mkKs_yes (hkr.trans hT), List.map_append]
        rfl
      · intro hF
        refine ex_end rfl (thn ?_)
        refine Ex.ns (m' := [("kept", .ptr kl), ("names", .ptr nl), ("grammar", dGram X g), ("symbols", .lst (bL g.names.length sb)), ("rules", .lst (bL g.rules.length rb))]) ?_ (nsk_cons rfl (nsk_cons rfl (nsk_cons rfl (nsk_cons rfl (nsk_cons rfl nsk_nil)))))
        refine ex_end rfl ⟨.inl rfl, (L, P.ns [("kept", .ptr kl), ("names", .ptr nl), ("grammar", dGram X g), ("symbols", .lst (bL g.names.length sb)), ("rules", .lst (bL g.rules.length rb))]) :: (kl, P.lst ((mkKs g sb rb (g.rules.take (j + 1))).map dRule)) :: (nl, P.lst ((kNames g sb g.names.length).map .str)) :: (pl, P.lst ((List.range (g.names.length)).map fun x => dN (plc g sb x))) :: (L + 1, P.cell (some (.ptr pl))) :: H, ?_, rfl⟩
        rw [htk, mkKs_no (hkr.trans hF)]
        rfl
    · subst hJ
      rw [List.length_map, List.take_length]
      apply ex_ret
      rfl
      apply ev_call
      rfl
      exact ev_global rfl rfl rfl
      first | exact .inl ⟨_, rfl⟩ | exact .inr (.inl ⟨_, rfl⟩) | exact .inr (.inr (by kernel_rfl))
      apply as_cons
      rfl
      rfl
      apply Ev.frz (ev_local rfl rfl rfl)
      repeat (first | apply Pull.head | apply Pull.tail)
      apply as_cons
      rfl
      rfl
      exact lG rfl rfl rfl rfl
      apply as_cons
      rfl
      rfl
      apply Ev.frz (ev_local rfl rfl rfl)
      repeat (first | apply Pull.head | apply Pull.tail)
      apply as_cons
      rfl
      rfl
      exact lG rfl rfl rfl rfl
      apply as_cons
      rfl
      rfl
      exact lG rfl rfl rfl rfl
      apply as_cons
      rfl
      rfl
      apply ev_item
      rfl
      apply ev_cell
      rfl
      rfl
      rfl
      first | exact .head _ | exact .tail _ (.head _) | exact .tail _ (.tail _ (.head _)) | exact .tail _ (.tail _ (.tail _ (.head _))) | exact .tail _ (.tail _ (.tail _ (.tail _ (.head _)))) | exact .tail _ (.tail _ (.tail _ (.tail _ (.tail _ (.head _))))) | exact .tail _ (.tail _ (.tail _ (.tail _ (.tail _ (.tail _ (.head _))))))
      exact lG rfl rfl rfl rfl
      exact sqP (.tail _ (.head _))
      exact range_at hst
      exact sz64 (by omega)
      exact fun _ _ => rfl
      exact as_nil
      exact c_gram (g := restr g sb rb) hB hk rfl rfl
      exact ⟨.inl rfl, .skip (.skip (.skip .rfl))⟩
noncomputable def redOf (g : Gram) : Gram := restr g (ndB g) (rbOf g fun r => usB g r && ndB g r.left)
theorem w_reduced (hA : Rm A (n + 6)) (hg : g.Ok) (h0 : 0 < g.rules.length) (hu : ubB g 0 = true) (hk : (redOf g).Ok) (hst : g.start < g.names.length) : Fn X A (.ref 214) [dGram X g] H (dGram X (redOf g)) H := by
  refine fn_inC (fd := fdRD) (c := 213) (ks := ["grammar"]) (cn := ["needed", "usable"]) (cs := fun n => [("needed", n + 1), ("usable", n)]) (ds := [dGram X g]) rfl rfl rfl rfl hA.lt rfl (fun _ => rfl) rfl rfl (fun _ => rfl) (fun _ => rfl) fun L => ?_
  show Ex X _ _ ((L, P.ns [("grammar", dGram X g)]) :: (L + 2, P.cell none) :: (L + 1, P.cell none) :: H) _
  have hB : Rm (A.deeper (callEnvC fdRD L 214)) (n + 5) := hA.deeper
  have hrz := hg.rz
  have hnz := hg.nz
  apply ex_assign
  rfl
  apply call1
  rfl
  rfl
  rfl
  exact ev_global rfl rfl rfl
  first | exact .inl ⟨_, rfl⟩ | exact .inr (.inl ⟨_, rfl⟩) | exact .inr (.inr (by kernel_rfl))
  exact ev_local rfl rfl rfl
  exact (w_useful (n := n + 1) hB hg).call
  apply bnd_cell
  rfl
  rfl
  first | exact .head _ | exact .tail _ (.head _) | exact .tail _ (.tail _ (.head _)) | exact .tail _ (.tail _ (.tail _ (.head _))) | exact .tail _ (.tail _ (.tail _ (.tail _ (.head _)))) | exact .tail _ (.tail _ (.tail _ (.tail _ (.tail _ (.head _))))) | exact .tail _ (.tail _ (.tail _ (.tail _ (.tail _ (.tail _ (.head _))))))
  first | exact Up.head | exact Up.tail Up.head | exact Up.tail (Up.tail Up.head) | exact Up.tail (Up.tail (Up.tail Up.head)) | exact Up.tail (Up.tail (Up.tail (Up.tail Up.head))) | exact Up.tail (Up.tail (Up.tail (Up.tail (Up.tail Up.head)))) | exact Up.tail (Up.tail (Up.tail (Up.tail (Up.tail (Up.tail Up.head)))))
  rfl
  apply ex_if
  rfl
  apply ask_not
  rfl
  apply ask_plain
  apply ev_item (k := 0)
  rfl
  apply ev_cell
  rfl
  rfl
  rfl
  first | exact .head _ | exact .tail _ (.head _) | exact .tail _ (.tail _ (.head _)) | exact .tail _ (.tail _ (.tail _ (.head _))) | exact .tail _ (.tail _ (.tail _ (.tail _ (.head _)))) | exact .tail _ (.tail _ (.tail _ (.tail _ (.tail _ (.head _))))) | exact .tail _ (.tail _ (.tail _ (.tail _ (.tail _ (.tail _ (.head _))))))
  exact ev_int rfl
  exact sq
  exact bL_at h0
  exact Nat.le_of_ble_eq_true rfl
  exact fun _ _ => rfl
  exact fun _ => rfl
  · intro hT
    rw [hu] at hT
    cases hT
  · intro hF
    refine ex_end rfl (thn ?_)
    apply ex_assign
    rfl
    apply ev_call
    rfl
    exact ev_global rfl rfl rfl
    first | exact .inl ⟨_, rfl⟩ | exact .inr (.inl ⟨_, rfl⟩) | exact .inr (.inr (by kernel_rfl))
    apply as_cons
    rfl
    rfl
    exact ev_local rfl rfl rfl
    apply as_cons
    rfl
    rfl
    apply ev_cell
    rfl
    rfl
    rfl
    first | exact .head _ | exact .tail _ (.head _) | exact .tail _ (.tail _ (.head _)) | exact .tail _ (.tail _ (.tail _ (.head _))) | exact .tail _ (.tail _ (.tail _ (.tail _ (.head _)))) | exact .tail _ (.tail _ (.tail _ (.tail _ (.tail _ (.head _))))) | exact .tail _ (.tail _ (.tail _ (.tail _ (.tail _ (.tail _ (.head _))))))
    exact as_nil
    exact (w_reached (n := n + 3) hB hg (ub := ubB g)).call
    apply bnd_cell
    rfl
    rfl
    first | exact .head _ | exact .tail _ (.head _) | exact .tail _ (.tail _ (.head _)) | exact .tail _ (.tail _ (.tail _ (.head _))) | exact .tail _ (.tail _ (.tail _ (.tail _ (.head _)))) | exact .tail _ (.tail _ (.tail _ (.tail _ (.tail _ (.head _))))) | exact .tail _ (.tail _ (.tail _ (.tail _ (.tail _ (.tail _ (.head _))))))
    first | exact Up.head | exact Up.tail Up.head | exact Up.tail (Up.tail Up.head) | exact Up.tail (Up.tail (Up.tail Up.head)) | exact Up.tail (Up.tail (Up.tail (Up.tail Up.head))) | exact Up.tail (Up.tail (Up.tail (Up.tail (Up.tail Up.head)))) | exact Up.tail (Up.tail (Up.tail (Up.tail (Up.tail (Up.tail Up.head)))))
    rfl
    apply ex_ret
    rfl
    apply ev_call
    rfl
    exact ev_global rfl rfl rfl
    first | exact .inl ⟨_, rfl⟩ | exact .inr (.inl ⟨_, rfl⟩) | exact .inr (.inr (by kernel_rfl))
    apply as_cons
    rfl
    rfl
    exact ev_local rfl rfl rfl
    apply as_cons
    rfl
    rfl
    apply ev_cell
    rfl
    rfl
    rfl
    first | exact .head _ | exact .tail _ (.head _) | exact .tail _ (.tail _ (.head _)) | exact .tail _ (.tail _ (.tail _ (.head _))) | exact .tail _ (.tail _ (.tail _ (.tail _ (.head _)))) | exact .tail _ (.tail _ (.tail _ (.tail _ (.tail _ (.head _))))) | exact .tail _ (.tail _ (.tail _ (.tail _ (.tail _ (.tail _ (.head _))))))
    apply as_cons
    rfl
    rfl
    apply fun h => Ev.as h (show _ = D.lst (bL g.rules.length (rbOf g fun r => usB g r && ndB g r.left)) from congrArg D.lst bL_of)
    apply ev_compA (g.rules) (dRule) (fun r => D.bool (usB g r && ndB g r.left))
    rfl
    exact ⟨rfl, rfl, rfl, rfl, fun _ => rfl⟩
    apply srcE (d := .lst (g.rules.map dRule))
    exact lG rfl rfl rfl rfl
    exact src_list hB.hh fun _ _ => rfl
    exact sz64 hrz
    · refine fun C T r hr => ⟨_, Bnd.asg rfl (bnd_local rfl (.head _) Up.head), ?_⟩
      apply ev_and (c := .bool (usB g r && ndB g r.left))
      rfl
      apply ev_item
      rfl
      apply ev_cell
      rfl
      rfl
      rfl
      first | exact .head _ | exact .tail _ (.head _) | exact .tail _ (.tail _ (.head _)) | exact .tail _ (.tail _ (.tail _ (.head _))) | exact .tail _ (.tail _ (.tail _ (.tail _ (.head _)))) | exact .tail _ (.tail _ (.tail _ (.tail _ (.tail _ (.head _))))) | exact .tail _ (.tail _ (.tail _ (.tail _ (.tail _ (.tail _ (.head _))))))
      exact lR rfl rfl rfl rfl
      exact sq
      exact (bL_at (r_num hg hr)).trans (congrArg (fun b => some (D.bool b)) (ubB_num hg hr))
      exact sz64 (by have := r_num hg hr; omega)
      exact fun _ _ => rfl
      · intro hb
        rw [hb, Bool.true_and]
        apply ev_item
        rfl
        apply ev_cell
        rfl
        rfl
        rfl
        first | exact .head _ | exact .tail _ (.head _) | exact .tail _ (.tail _ (.head _)) | exact .tail _ (.tail _ (.tail _ (.head _))) | exact .tail _ (.tail _ (.tail _ (.tail _ (.head _)))) | exact .tail _ (.tail _ (.tail _ (.tail _ (.tail _ (.head _))))) | exact .tail _ (.tail _ (.tail _ (.tail _ (.tail _ (.tail _ (.head _))))))
        exact lR rfl rfl rfl rfl
        exact sq
        exact bL_at (hg.left r hr)
        exact sz64 (by have := hg.left r hr; omega)
        exact fun _ _ => rfl
      exact fun hb => ⟨rfl, by rw [hb]; rfl⟩
    exact as_nil
    exact (w_restricted (n := n + 2) hB hg hk hst).call
    exact ⟨.inl rfl, .skip (.skip (.skip .rfl))⟩
end
end Mine
namespace Mine
/-- an exception of the text's own, while it is made -/
noncomputable def P.exc (dx : Option Addr) : P := ⟨fun _ o => o.cls = .ref 180 ∧ o.dict = dx ∧ ∃ vs : Array Value, o.data = .fields vs ∧ vs.size = 6 ∧ vs[1]? = some .none, fun _ h => h⟩
abbrev excG : Obj := excClassObj "GrammarError" "GrammarError" 180 179 [.ref 167] [.ref 167, .type "Exception", .type "BaseException", .type "object"] true [] [] false none none (some (.ref 171)) none (some (.str "GrammarError" 410)) (some (.str "GrammarError" 418)) (some (.bool true)) "Exception.__new__"
section
variable {X : Cx} {A : Around} {env : Env} {H H' H₁ H₂ K Z : Hs} {R : Result → Shared → Prop} {F : Fz} {s : Shared}
theorem St.hG (S : St X H F s) : s.heap.get? 180 = some excG := S.kIn 180 _ rfl
theorem exc_new {h : Heap} {g : Array GenState} {d : Drawn} {t : Nat} {os : OsState} {rest : List Value} (hC : h.get? 180 = some excG)
    (hq : R (.ok (.ret (.ref (h.objs.size + 1)))) ⟨(h.push { cls := .type "tuple", data := .seq rest.toArray }).push { cls := .ref 180, data := .fields #[.ref h.objs.size, .none, .none, .none, .bool false, .none] }, g, d, t, os⟩) (hrest : rest.length ≤ sizeLine) :
    codeAny X.M A (.builtin "Exception.__new__" ⟨.ref 180 :: rest, []⟩) R ⟨h, g, d, t, os⟩ := by
  have Fn := PySem.F.excBase_Exception
  have hends := Fn.ends
  have hB : (Value.ref 180 :: [.ref 167, .type "Exception", .type "BaseException", .type "object"]).contains (.type "Exception") = true := by decide
  have hA : (Value.ref 180 :: [.ref 167, .type "Exception", .type "BaseException", .type "object"]).contains (.type "AttributeError") = false := by decide
  have hN : (Value.ref 180 :: [.ref 167, .type "Exception", .type "BaseException", .type "object"]).contains (.type "NameError") = false := by decide
  refine PySem.codeAny_builtinAt Fn.entry ?_
  unfold Builtin.«BaseException.__new__»
  refine PySem.wpAt_bind ?_
  show PySem.wpAt _ _ _ (stack >>= _) _ _ _
  refine PySem.wpAt_bind (PySem.wpAt_stack fun p below => PySem.wpAt_of_wpAny ?_)
  wp_walk
  refine PySem.wpAt_of_wpAny ?_
  rw [Fn.owner]
  repeat (first | with_reducible refine wpAny_madeHere_exc Fn.canon hC ?_ | with_reducible refine wpAny_loadPart_at hC ?_ | (with_reducible refine wpAny_isSubtype_exc hC ?_; first | rw [hB] | rw [hA] | rw [hN]) | wp_step)
  show R _ _
  rw [Heap.size_push]
  exact hq
theorem exc_check_new {h : Heap} {g : Array GenState} {d : Drawn} {t : Nat} {os : OsState} {rest : List Value} {Q : Unit → Shared → Prop} {E : Value → Shared → Prop} (hC : h.get? 180 = some excG)
    (hq : Q () ⟨h, g, d, t, os⟩) : wpAny X.M A (checkBuiltinCall "Exception.__new__" ⟨.ref 180 :: rest, []⟩) Q E ⟨h, g, d, t, os⟩ := by
  have Fn := PySem.F.excBase_Exception
  have hB : (Value.ref 180 :: [.ref 167, .type "Exception", .type "BaseException", .type "object"]).contains (.type "Exception") = true := by decide
  have hstar := Fn.noStar
  simp only [checkBuiltinCall, Fn.newKind, Fn.newSplit, Fn.newRow]
  repeat (first | refine wpAny_loadPart_at hC ?_ | (refine wpAny_isSubtype_exc hC ?_; rw [hB]) | refine wpAny_staticBase_exc hC ?_ | refine wpAny_madeBy_exc hC ?_ | simp only [bne_self_eq_false, Bool.false_eq_true, if_false] | wp_step)
  exact hq
theorem exc_core {e : Addr} {rest : List Value} (S : St X H F s) (hrest : rest.length ≤ sizeLine) (he : e = s.heap.objs.size + 1)
    (hq : codeAny X.M (A.under (.builtin "type.__call__" ⟨.ref 180 :: rest, []⟩)) (.call (.ref 157) ⟨.ref e :: rest, []⟩) (InitBack e R)
      { s with heap := (s.heap.push { cls := .type "tuple", data := .seq rest.toArray }).push { cls := .ref 180, data := .fields #[.ref s.heap.objs.size, .none, .none, .none, .bool false, .none] } }) :
    codeAny X.M A (.call (.ref 180) ⟨rest, []⟩) R s := by
  subst he
  have hC := S.hG
  have K := S.kIn
  obtain ⟨h, g, d, t, os⟩ := s
  dsimp only at hC K hq
  have call : Looks X.M h (specialOf (.ref 180) "__call__") (some (.builtin "type.__call__")) := looks_specialIn K (by kernel_rfl)
  have typ : Looks X.M h (isInstance (.ref 180) (.type "type")) true := looks_instIn K (by kernel_rfl)
  have self : Looks X.M h (isSubtype (.ref 180) (.ref 180)) true := looks_mroIn K (by kernel_rfl)
  have hi : Looks X.M h (typeLookup (.ref 180) "__init__") (some (.ref 157)) := looks_findIn K (by kernel_rfl)
  have hm : Looks X.M h (mroOf (.ref 180)) [.ref 180, .ref 167, .type "Exception", .type "BaseException", .type "object"] := (looks_clsIn K (C := 180) rfl).andThen .now
  have made : Looks X.M h (Bind.madeBy (.ref 180)) (some "Exception.__new__") := fun A Q E s k q => by
    obtain ⟨h', g', d', t', os'⟩ := s
    exact wpAny_madeBy_exc (k _ _ hC) q
  refine codeAny_of_tree ?_
  show wpAny _ _ (callAny (.ref 180) _) _ _ _
  refine nd_load hC ?_
  show wpAny _ _ (callAny.viaDunder (.ref 180) _) _ _ _
  unfold callAny.viaDunder
  refine wpAny_bind (call.at ?_)
  dsimp only
  rw [tc_bind]
  refine wpAny_bind (wpAny_pure (wpAny_bind (wpAny_pure ?_)))
  refine wpAny_pure (a := Fin.again (.call (.builtin "type.__call__") ⟨.ref 180 :: rest, []⟩)) (And.intro rfl ?_)
  refine codeAny_call_builtin_at (Code.quiet_builtin _ (by decide +kernel)) entry_typeCall (check_slot tc_kind tc_split typ (tc_args _ _ _) ?_)
  unfold Builtin.«type.__call__»
  repeat (first | simp only [List.isEmpty_cons, Bool.false_eq_true, if_false] | with_reducible refine wpAny_call ?_ | lk)
  refine codeAny_call_builtin_code (Code.quiet_builtin _ PySem.F.excBase_Exception.quiet) (exc_check_new hC ?_)
  refine exc_new hC ?_ hrest
  have k : ∀ b o, h.get? b = some o → ((h.push { cls := .type "tuple", data := .seq rest.toArray }).push { cls := .ref 180, data := .fields #[.ref h.objs.size, .none, .none, .none, .bool false, .none] }).get? b = some o := fun b o e => Heap.get?_push_of_some _ (Heap.get?_push_of_some _ e)
  have hx : ((h.push { cls := .type "tuple", data := .seq rest.toArray }).push { cls := .ref 180, data := .fields #[.ref h.objs.size, .none, .none, .none, .bool false, .none] }).get? (h.objs.size + 1) = some { cls := .ref 180, data := .fields #[.ref h.objs.size, .none, .none, .none, .bool false, .none] } := by heap_get
  have t1 : Looks X.M ((h.push { cls := .type "tuple", data := .seq rest.toArray }).push { cls := .ref 180, data := .fields #[.ref h.objs.size, .none, .none, .none, .bool false, .none] }) (typeOf (.ref (h.objs.size + 1))) (.ref 180) := (Looks.ld hx).andThen .now
  have s1 := self.keeps k
  have i1 := hi.keeps k
  have b1 : Looks X.M ((h.push { cls := .type "tuple", data := .seq rest.toArray }).push { cls := .ref 180, data := .fields #[.ref h.objs.size, .none, .none, .none, .bool false, .none] }) (bindSpecial (.ref 157) (.ref (h.objs.size + 1))) (.ref 157, [.ref (h.objs.size + 1)]) := (bind_fn K (.ref (h.objs.size + 1)) (by kernel_rfl)).keeps k
  show wpAny _ _ _ _ _ _
  unfold isInstance callSpecial? specialOf
  repeat (first | with_reducible refine wpAny_call ?_ | lk)
  refine codeAny_mono hq fun r s' z => ?_
  rcases r with e | (v | _ | _ | _) <;> first | exact z | exact z.elim | skip
  obtain ⟨rfl, z⟩ := z
  exact wpAny_pure (wpAny_pure z)
end
end Mine
namespace Mine
open PySem.Builtin PySem.Builtin.ObjectAttr
section
variable {X : Cx} {A : Around} {env : Env} {H H' H₁ H₂ K Z : Hs} {R : Result → Shared → Prop} {F : Fz} {s : Shared}
theorem exc_obj {e : Addr} {dx : Option Addr} (S : St X H F s) (hm : (e, P.exc dx) ∈ H) : ∃ o, s.heap.get? e = some o ∧ o.cls = .ref 180 ∧ o.dict = dx ∧ ∃ vs : Array Value, o.data = .fields vs ∧ vs.size = 6 ∧ vs[1]? = some .none := S.tur _ hm
theorem osa_openX {x : Addr} {ox : Obj} {name : Str} {tk : Tok} {v : Value} (S : St X H F s) (hx : s.heap.get? x = some ox) (hc : ox.cls = .ref 180) (ht : takerIn (Frg X.w) 180 name = some none)
    (h : ∀ b, wpAny X.M A.in1 (storeInOwnDict (.ref x) (.ref 180) (.str name tk) name v b)
      (fun fin s' => match fin with | .done f => R (.ok f) s' | .again c' => c'.quiet = true ∧ codeAny X.M A c' R s') (fun e s' => R (.error e) s') s) :
    codeAny X.M A (.call (.builtin "object.__setattr__") ⟨[.ref x, .str name tk, v], []⟩) R s := by
  have SF := PySem.F.store_object
  have t1 : Looks X.M s.heap (typeOf (.ref x)) (.ref 180) := (Looks.ld hx).andThen (by rw [hc]; exact .now)
  have sub : Looks X.M s.heap (isInstance (.ref x) (.type "object")) true := t1.andThen (looks_mroIn S.kIn (by kernel_rfl))
  refine codeAny_call_builtin SF.slot.plain SF.entry (@check_slot X.M _ _ s "object.__setattr__" "object" "__setattr__" (.ref x) [.str name tk, v] [] _ SF.kind SF.split sub (SF.args (.ref x) (.str name tk) v) ?_)
  obtain ⟨attr, ha, hr⟩ := Option.bind_eq_some_iff.mp ht
  have hm : Looks X.M s.heap (mroOf (.ref 180)) [.ref 180, .ref 167, .type "Exception", .type "BaseException", .type "object"] := (looks_clsIn S.kIn (C := 180) rfl).andThen .now
  have L3 : Looks X.M s.heap (storeTaker? attr) none := by
    cases attr with
    | none => exact .now
    | some a =>
      obtain ⟨b, hb, hb2⟩ := Option.map_eq_some_iff.mp hr
      refine (looks_takesIn S.kIn hb).andThen ?_
      cases b with
      | true => cases hb2
      | false => exact .now
  rw [osa_eq, refuse_eq]
  refine wpAny_bind (wpAny_bind (t1.here (wpAny_bind (hm.here ?_))))
  rw [refuseLoop_ref, refuseLoop_ref, PySem.F.store_Exception.passes]
  exact wpAny_pure (wpAny_bind (t1.here (wpAny_bind ((looks_findIn S.kIn ha).here (wpAny_bind (L3.here (h _)))))))
/-- a store into a dict of names that turns -/
theorem store_dict {dx : Addr} {name : Str} {tk : Tok} {v : Value} {d : D} {fs : List (Str × D)} {Q : Fin → Shared → Prop} {E : Value → Shared → Prop} (S : St X H F s) (hm : (dx, P.attrs fs) ∈ H) (u : Up dx (.attrs ((name, d) :: fs)) H H') (hv : d.is F v) (hz : fs.length ≤ sizeLine)
    (h : ∀ s', St X H' F s' → Q (.done (.ret .none)) s') : wpAny X.M A.in1 (storeInDict dx (.str name tk) name v) Q E s := by
  obtain ⟨o, ho, hq⟩ := S.tur _ hm
  cases hq with
  | mk es n e k z r a =>
    subst e
    unfold storeInDict newKeyGuard
    refine wpAny_bind (wpAny_pure (wpAny_bind ?_))
    unfold nsSet
    refine wpAny_bind (wpAny_bind (wpAny_askSetting (wpAny_pure (wpAny_bind (wpAny_mkText (wpAny_bind (wpAny_loadPart ho ?_)))))))
    have c : (!es.toArray.any (·.key.isStr name) && es.toArray.any (·.refKey)) = false := by
      have : es.toArray.any (·.refKey) = false := by
        rw [← Array.any_toList]
        cases hb : es.toArray.toList.any (·.refKey) with
        | false => rfl
        | true =>
          obtain ⟨en, hen, hr⟩ := List.any_eq_true.mp hb
          obtain ⟨x, t, hx⟩ := k en hen
          unfold DictEntry.refKey at hr; rw [hx] at hr; cases hr
      rw [this, Bool.and_false]
    show wpAny X.M A.in1 (if aRefKeyMayBeTheName name es.toArray = true then _ else _) _ _ _
    rw [aRefKeyMayBeTheName_at, c]
    refine wpAny_updatePart ho ?_
    have hp := putName_dict name (PyData.keyHash X.w.params name) (.str name s.toks) v es n
    have kp := put_all (name := name) (h := PyData.keyHash X.w.params name) (t := s.toks) (v := v) es k
    have g' : (s.heap.update dx (Obj.putName name (PyData.keyHash X.w.params name) (.str name s.toks) v)).get? dx = some (dictOf _ _) := Heap.get?_update_self _ ho (by rw [hp]; rfl) |>.trans (congrArg some hp)
    refine wpAny_bind (wpAny_lookBehind g' (pastItsLine_dict (by rw [List.size_toArray]; exact Nat.le_trans kp.2.1 (Nat.succ_le_succ (Nat.le_trans z hz)))) ?_)
    refine wpAny_pure (h _ (S.up u (fun b q hb eb => (Heap.get?_update_other _ _ (Ne.symm hb)).trans eb) g' (.mk _ _ rfl kp.1 (Nat.le_trans kp.2.1 (Nat.succ_le_succ z)) (fun y d' hy => ?_) fun y hy => ?_)))
    · rw [List.lookup_cons] at hy
      by_cases hxy : y = name
      · rw [beq_iff_eq.mpr hxy] at hy
        exact ⟨v, (kp.2.2 y).trans (if_pos hxy.symm), Option.some.inj hy ▸ hv⟩
      · rw [beq_eq_false_iff_ne.mpr hxy] at hy
        exact (r _ _ hy).imp fun u z => ⟨(kp.2.2 y).trans ((if_neg (Ne.symm hxy)).trans z.1), z.2⟩
    · rw [List.lookup_cons] at hy
      by_cases hxy : y = name
      · rw [beq_iff_eq.mpr hxy] at hy
        exact nomatch hy
      · rw [beq_eq_false_iff_ne.mpr hxy] at hy
        exact (kp.2.2 y).trans ((if_neg (Ne.symm hxy)).trans (a _ hy))
theorem exc_dict_some {e dx : Addr} {Q : Option Addr → Shared → Prop} {E : Value → Shared → Prop} (S : St X H F s) (hm : (e, P.exc (some dx)) ∈ H) (h : Q (some dx) s) : wpAny X.M A.in1 (instanceDict e true) Q E s := by
  obtain ⟨o, ho, hc, hd, -⟩ := exc_obj S hm
  unfold instanceDict
  refine wpAny_bind (wpAny_loadPart ho ?_)
  rw [hc, hd]
  refine wpAny_bind (Looks.here (looks_clsIn S.kIn (C := 180) rfl) ?_)
  exact wpAny_pure h
theorem exc_dict_none {e : Addr} {H₁ : Addr → Hs} {Q : Option Addr → Shared → Prop} {E : Value → Shared → Prop} (S : St X H F s) (hm : (e, P.exc none) ∈ H) (u : ∀ dx, Up e (.exc (some dx)) H (H₁ dx))
    (h : ∀ dx s', St X ((dx, .attrs []) :: H₁ dx) F s' → Q (some dx) s') : wpAny X.M A.in1 (instanceDict e true) Q E s := by
  obtain ⟨o, ho, hc, hd, vs, hv, hz, h1⟩ := exc_obj S hm
  have hne : e ≠ s.heap.objs.size := Nat.ne_of_lt (Heap.lt_size ho)
  unfold instanceDict
  refine wpAny_bind (wpAny_loadPart ho ?_)
  rw [hc, hd]
  refine wpAny_bind (Looks.here (looks_clsIn S.kIn (C := 180) rfl) ?_)
  show wpAny _ _ (if (!true || !typeHasDict (.ref 180)) = true then _ else _) _ _ _
  rw [if_neg (by decide), hv]
  show wpAny _ _ (alloc _ >>= _) _ _ _
  refine wpAny_bind (wpAny_alloc ?_)
  have ho' : (s.heap.push { cls := .type "dict", data := .dict #[] }).get? e = some o := Heap.get?_push_of_some _ ho
  refine wpAny_bind (wpAny_update ho' ?_)
  show wpAny _ _ (pure (some s.heap.objs.size)) _ _ _
  refine wpAny_pure (h _ _ ?_)
  have S1 := S.pushH (p := P.attrs []) (tk := s.toks) { cls := .type "dict", data := .dict #[] } (.mk [] 0 rfl (fun _ he => by cases he) (Nat.le_refl _) (fun _ _ h => by cases h) fun _ _ => rfl)
  refine S1.up (tk := s.toks) (u _).tail (fun b q hb eb => (Heap.get?_update_other _ _ (Ne.symm hb)).trans eb) (Heap.get?_update_self _ ho' ?_) ⟨hc, rfl, vs, hv, hz, h1⟩
  have := (Heap.get?_some_iff.mp ho).2
  obtain ⟨c, d, dt, sl⟩ := o
  cases hv
  rfl
end
end Mine
namespace Mine
open PySem.Builtin PySem.Builtin.ObjectAttr
section
variable {X : Cx} {A : Around} {env : Env} {H H' H₁ H₂ K Z : Hs} {R : Out → Hs → Prop} {F : Fz} {s : Shared} {ss : List Stmt}
theorem stores {x : Addr} {name : Str} {tk : Tok} {v : Value} {b : Bool} {Q : Fin → Shared → Prop} {E : Value → Shared → Prop} (h : wpAny X.M A (instanceDict x true) (fun r s' => wpAny X.M A (match r with | some d => storeInDict d (.str name tk) name v | none => noDictFor (.ref x) (.ref 180) name b) Q E s') E s) :
    wpAny X.M A (storeInOwnDict (.ref x) (.ref 180) (.str name tk) name v b) Q E s := by
  unfold storeInOwnDict
  exact wpAny_bind (wpAny_pure (wpAny_bind h))
theorem exc_inst {e : Addr} {dx : Option Addr} (S : St X H F s) (hm : (e, P.exc dx) ∈ H) (hd : ∀ d, dx = some d → ∃ o, s.heap.get? d = some o) : ∃ o od, InstAt s.heap e o 180 od ∧ s.heap.get? e = some o ∧ o.cls = .ref 180 := by
  obtain ⟨o, ho, hc, hd', vs, hv, hz, h1⟩ := exc_obj S hm
  cases dx with
  | none => exact ⟨o, none, ⟨ho, hc, by obtain ⟨c, d, dt, sl⟩ := o; cases hv; rfl, by rw [hd']; trivial⟩, ho, hc⟩
  | some d =>
    obtain ⟨od, hod⟩ := hd d rfl
    exact ⟨o, some od, ⟨ho, hc, by obtain ⟨c, d, dt, sl⟩ := o; cases hv; rfl, by rw [hd']; exact hod⟩, ho, hc⟩
theorem exc_set1 {e : Addr} {name : Str} {d : D} {v : Value} {Q : Unit → Shared → Prop} {H₁ : Addr → Hs} (S : St X H F s) (ht : takerIn (Frg X.w) 180 name = some none) (hm : (e, P.exc none) ∈ H) (u : ∀ dx, Up e (.exc (some dx)) H (H₁ dx)) (hv : d.is F v)
    (h : ∀ dx s', St X ((dx, .attrs [(name, d)]) :: H₁ dx) F s' → Q () s') : wpAny X.M A (setAttr (.ref e) name v) Q (fun _ _ => False) s := by
  obtain ⟨o, od, I, ho, hc⟩ := exc_inst S hm fun d h => by cases h
  refine set_plain S.kIn I (by kernel_rfl) (osa_openX (s := { s with toks := s.toks + 1 }) (S.tok (tk := s.toks + 1)) ho hc ht fun b => stores ?_)
  refine exc_dict_none (S.tok (tk := s.toks + 1)) hm u fun dx s' S' => ?_
  exact store_dict S' List.mem_cons_self Up.head hv (Nat.zero_le _) fun s'' S'' => h dx s'' S''
theorem exc_set2 {e dx : Addr} {name : Str} {d : D} {v : Value} {fs : List (Str × D)} {Q : Unit → Shared → Prop} (S : St X H F s) (ht : takerIn (Frg X.w) 180 name = some none) (hm : (e, P.exc (some dx)) ∈ H) (hd : (dx, P.attrs fs) ∈ H) (u : Up dx (.attrs ((name, d) :: fs)) H H') (hv : d.is F v) (hz : fs.length ≤ sizeLine)
    (h : ∀ s', St X H' F s' → Q () s') : wpAny X.M A (setAttr (.ref e) name v) Q (fun _ _ => False) s := by
  obtain ⟨o, od, I, ho, hc⟩ := exc_inst S hm fun d h => by cases h; exact (S.tur _ hd).imp fun _ q => q.1
  refine set_plain S.kIn I (by kernel_rfl) (osa_openX (s := { s with toks := s.toks + 1 }) (S.tok (tk := s.toks + 1)) ho hc ht fun b => stores ?_)
  refine exc_dict_some (S.tok (tk := s.toks + 1)) hm ?_
  exact store_dict (S.tok (tk := s.toks + 1)) hd u hv hz fun s'' S'' => h s'' S''
theorem ex_exc1 {e : Addr} {name : Str} {d : D} {m : List (Str × D)} {K₁ : Hs} {K₂ : Addr → Hs} (he : SetA ss name) (h : Ev X A (eval (z0 ss) env) H d ((env.locals, .ns m) :: K₁)) (ho : Ev X A (eval (k0 (z1 ss)) env) ((env.locals, .ns m) :: K₁) (.ptr e) ((env.locals, .ns m) :: K₁)) (hm : (e, P.exc none) ∈ K₁) (u : ∀ dx, Up e (.exc (some dx)) K₁ (K₂ dx)) (ht : takerIn (Frg X.w) 180 name = some none)
    (hs : swapsWith (z0 ss) (some (.Attribute (k0 (z1 ss)) name (z1 ss).pos)) (posS ss).line env = pure false) (kk : ∀ dx, Ex X A (execs ss.tail env) ((env.locals, .ns m) :: (dx, .attrs [(name, d)]) :: K₂ dx) R) : Ex X A (execs ss env) H R := .ss he (ex_cons fun F s S =>
  plainObj_wpAny_Assign_Attribute (h.mono S fun v F₁ s₁ l₁ S₁ r₁ => ho.mono S₁ fun ov F₂ s₂ l₂ S₂ e' => by
    cases (e' : ov = .ref _)
    exact exc_set1 S₂ ht (.tail _ hm) (fun dx => (u dx).tail) (d.mono l₂ r₁) fun dx s' S' => ⟨F₂, _, .next, l₁.trans l₂, S', rfl, thn ((kk dx).step (Stp.perm (List.Perm.swap ..)))⟩) hs)
theorem ex_exc2 {e dx : Addr} {name : Str} {d : D} {fs : List (Str × D)} (he : SetA ss name) (h : Ev X A (eval (z0 ss) env) H d H₁) (ho : Ev X A (eval (k0 (z1 ss)) env) H₁ (.ptr e) H₁) (hm : (e, P.exc (some dx)) ∈ H₁) (hd : (dx, P.attrs fs) ∈ H₁) (u : Up dx (.attrs ((name, d) :: fs)) H₁ H₂) (hz : Nat.ble fs.length sizeLine = true) (ht : takerIn (Frg X.w) 180 name = some none)
    (hs : swapsWith (z0 ss) (some (.Attribute (k0 (z1 ss)) name (z1 ss).pos)) (posS ss).line env = pure false) (kk : Ex X A (execs ss.tail env) H₂ R) : Ex X A (execs ss env) H R := .ss he (ex_cons fun F s S =>
  plainObj_wpAny_Assign_Attribute (h.mono S fun v F₁ s₁ l₁ S₁ r₁ => ho.mono S₁ fun ov F₂ s₂ l₂ S₂ e' => by
    cases (e' : ov = .ref _)
    exact exc_set2 S₂ ht hm hd u (d.mono l₂ r₁) (Nat.le_of_ble_eq_true hz) fun s' S' => ⟨F₂, _, .next, l₁.trans l₂, S', rfl, thn kk⟩) hs)
theorem excinit_run (a b : Value) : Builtin.«BaseException.__init__» ⟨[a, b], []⟩ = (newTuple [b] >>= fun x => Builtin.BaseException.bexcPut a 0 x >>= fun _ => ret .none) := by kernel_rfl
theorem exc_check_init {e : Addr} {oe : Obj} {rest : List Value} {Q : Unit → Shared → Prop} {E : Value → Shared → Prop} (hC : s.heap.get? 180 = some excG) (he : s.heap.get? e = some oe) (hcls : oe.cls = .ref 180) (hq : Q () s) :
    wpAny X.M A (checkBuiltinCall "Exception.__init__" ⟨.ref e :: rest, []⟩) Q E s := by
  have F := PySem.F.excBase_Exception
  have hcB : (Value.ref 180 :: [.ref 167, .type "Exception", .type "BaseException", .type "object"]).contains (.type "Exception") = true := by decide
  have hshort := F.noStar
  obtain ⟨h, g, d, t, os⟩ := s
  simp only [checkBuiltinCall, F.initKind, F.initSplit, F.initRow]
  repeat (first | (with_reducible refine wpAny_loadPart_at he ?_; rw [hcls]) | with_reducible refine wpAny_loadPart_at hC ?_ | (with_reducible refine wpAny_isSubtype_exc hC ?_; rw [hcB]) | wp_step)
  refine wpAny_onRaise ?_
  rw [show ∀ (a b : String) (n : Nat), Bind.check ⟨.positional, "*", "Exception", .self, [⟨"args", .varPos, false⟩]⟩ a b n (List.map (fun x => x.fst) ({ pos := Value.ref e :: rest } : Args).kw) = pure () from
    fun a b n => check_star_args _ _ _ _ _ _]
  exact wpAny_pure hq
theorem exc_put {e : Addr} {w : Value} {dx : Option Addr} {Q : Unit → Shared → Prop} {E : Value → Shared → Prop} (S : St X H F s) (hm : (e, P.exc dx) ∈ H) (u : Up e (P.exc dx) H H) (h : ∀ s', St X H F s' → Q () s') : wpAny X.M A (Builtin.BaseException.bexcPut (.ref e) 0 w) Q E s := by
  obtain ⟨o, ho, hc, hd, vs, hv, hz, h1⟩ := exc_obj S hm
  unfold Builtin.BaseException.bexcPut
  obtain ⟨x0, hx0⟩ : ∃ x, vs[0]? = some x := ⟨_, Array.getElem?_eq_getElem (by omega)⟩
  have hd3 := Obj.data_mapFields hv (·.setIfInBounds 0 w)
  have S2 : St X H F { s with heap := s.heap.update e (Obj.mapFields (·.setIfInBounds 0 w)) } :=
    S.up (tk := s.toks) u (fun b q hb eb => (Heap.get?_update_other _ _ (Ne.symm hb)).trans eb) (Heap.get?_update_self _ ho (Obj.isFreed_of_fields hd3)) ⟨(Obj.cls_mapFields ..).trans hc, by
      obtain ⟨c, dd, dt, sl⟩ := o
      cases hv
      exact hd, _, hd3, by rw [Array.size_setIfInBounds]; exact hz, by rw [Array.getElem?_setIfInBounds_ne (by decide)]; exact h1⟩
  refine wpAny_bind (wpAny_field ho hv hx0 (wpAny_bind (wpAny_setField ho hv (by omega) ?_)))
  cases x0 <;> first | exact wpAny_pure (h _ S2) | exact wpAny_letGo (h _ S2)
/-- Exception.__init__(self, ..) -/
theorem cd_excinit {e : Addr} {d : D} {dx : Option Addr} (hm : (e, P.exc dx) ∈ H) (u : Up e (P.exc dx) H H) : CallD X A (.builtin "Exception.__init__") [.ptr e, d] H .none H := .two fun F s v w S (ev : v = .ref e) hw => by
  subst ev
  have FE := PySem.F.excBase_Exception
  obtain ⟨o, ho, hc, -⟩ := exc_obj S hm
  refine wpAny_call (codeAny_call_builtin FE.init.plain FE.initEntry (exc_check_init S.hG ho hc ?_))
  rw [excinit_run]
  have S1 := S.keeps (tk := s.toks) (h' := s.heap.push { cls := .type "tuple", data := .seq [w].toArray }) fun b q eb => Heap.get?_push_of_some _ eb
  refine wpAny_bind (wpAny_newTuple (wpAny_bind (exc_put S1 hm u fun s' S' => ?_)) (Nat.le_of_ble_eq_true rfl))
  exact wpAny_pure ⟨F, .rfl, S', rfl⟩
end
end Mine
namespace Mine
noncomputable abbrev fdTE : FuncData := fdOf (inCls (topAt 8) 0) "ToolError." (.ref 150) pmS 156
theorem excinit_found : findCls [] (.type "Exception") (.type "type") "__init__" = some (.val (.builtin "Exception.__init__")) := by kernel_rfl
theorem boot_exc : bootBuiltins "Exception" = some (.type "Exception") := by decide +kernel
section
variable {X : Cx} {A : Around} {env : Env} {H H' H₁ H₂ K Z : Hs} {R : Out → Hs → Prop} {F : Fz} {s : Shared} {ss : List Stmt} {n : Nat}
/-- a method found at a built-in type -/
theorem ev_methT {e : Expr} {T : String} {name : Str} {pl : Sem Bool} {f : Value} {ds : List D} {d : D} {L : Addr} {m : List (Str × D)} (hE : MethE e name pl env) (h : Ev X A (eval (k0 (k0 e)) env) H (.val (.type T)) H₁) (hm : (L, P.ns m) ∈ H₁) (ht : typeOf (.type T) = pure (.type "type")) (hs : Manifest.isStub T = false)
    (hf : findCls [] (.type T) (.type "type") name = some (.val f)) (hh : handedIn f = true) (k : Kept X f) (ha : Argz X A (kids e).tail env H₁ ds H₂) (hc : CallD X A f ds H₂ d H') : Ev X A (eval e env) H d H' := fun F s S => by
  rw [hE]
  exact wpAny_bind (h.mono S fun v F₁ s₁ l₁ S₁ r₁ => wpAny_bind (wpAny_standAt (wpAny_bind (wpAny_holding (by
    cases (r₁ : v = .type T)
    obtain ⟨m', Fr₀, -⟩ := S₁.fr hm
    refine method_type (K := []) Fr₀ (fun a o h => nomatch h) ht hs hf hh ?_
    exact callWith_d (fs := []) k S₁.tok .nil (ha.1 _) (ha.2 _) hc fun v F' s' a b c => ⟨F', l₁.trans a, b, c⟩)))))
theorem w_tool_init (hA : Rm A (n + 1)) {e : Addr} {x : Str} : FnQ X A (.ref 157) [.ptr e, .str x] ((e, P.exc none) :: H) fun d K => ∃ dx, d = .none ∧ K = (dx, .attrs [("at", .none), ("what", .str x)]) :: (e, P.exc (some dx)) :: H := by
  refine fn_enterQ (fd := fdTE) (c := 156) (body := stmtsOf fdTE.body) (ks := ["self", "what", "at"]) (es := [.ptr e, .str x, .none]) (cs := fun L => []) rfl (List.contains_iff_mem.mp rfl) rfl rfl hA.lt rfl rfl (fun F s vs S r => ?_) (by decide) rfl (fun n => rfl) (fun n => List.nodup_nil) (fun n q h => by cases h) rfl (fun L => rfl) (fun L => ?_) rfl rfl rfl
  · obtain ⟨v, us, rfl, hv, r'⟩ := r.cons_inv
    obtain ⟨w, us', rfl, hw, r''⟩ := r'.cons_inv
    cases r''.nil_inv
    exact ⟨[v, w, .none], .cons hv (.cons hw (.one rfl)), .of_defaults rfl (S.kIn 150 _ rfl) rfl rfl rfl⟩
  show Ex X _ _ ((L, P.ns [("self", .ptr e), ("what", .str x), ("at", .none)]) :: (e, P.exc none) :: H) _
  apply ex_expr rfl
  apply ev_methT
  rfl
  exact ev_builtin rfl rfl rfl boot_exc
  exact .head _
  rfl
  rfl
  exact excinit_found
  rfl
  exact .inl ⟨_, rfl⟩
  apply as_cons
  rfl
  rfl
  exact ev_local rfl rfl rfl
  apply as_cons
  rfl
  rfl
  exact ev_local rfl rfl rfl
  exact as_nil
  exact cd_excinit (.tail _ (.head _)) (Up.tail Up.head)
  rfl
  rfl
  refine ex_exc1 (e := e) (K₂ := fun dx => (e, P.exc (some dx)) :: H) rfl (ev_local rfl rfl rfl) (ev_local rfl rfl rfl) (.head _) (fun dx => Up.head) (by kernel_rfl) rfl fun dx => ?_
  refine ex_exc2 (e := e) rfl (ev_local rfl rfl rfl) (ev_local rfl rfl rfl) (.tail _ (.tail _ (.head _))) (.tail _ (.head _)) (Up.tail Up.head) rfl (by kernel_rfl) rfl ?_
  exact ex_end rfl ⟨.none, _, .inr ⟨rfl, rfl⟩, .skip .rfl, dx, rfl, rfl⟩
end
end Mine
namespace Mine
inductive GotX (X : Cx) (H : Hs) (F : Fz) (v : Value) (s' : Shared) : Prop
  | mk (e dx : Addr) (F' : Fz) (ev : v = .ref e) (l : Le F F') (S : St X ((e, .exc (some dx)) :: H) F' s')
section
variable {X : Cx} {A : Around} {env : Env} {H H' H₁ H₂ K Z : Hs} {R : Out → Hs → Prop} {F : Fz} {s : Shared} {ss : List Stmt} {n : Nat}
theorem callq_exc (hA : Rm A (n + 2)) {x : Str} : CallQ X A (.ref 180) [.str x] H fun d K => ∃ e dx, d = .ptr e ∧ K = (e, P.exc (some dx)) :: H := fun F s vs S r => by
  obtain ⟨v, us, rfl, hv, r'⟩ := r.cons_inv
  cases r'.nil_inv
  refine wpAny_call (exc_core (e := s.heap.objs.size + 1) S (Nat.le_of_ble_eq_true rfl) rfl ?_)
  have S1 := S.keeps (tk := s.toks) (h' := s.heap.push { cls := .type "tuple", data := .seq [v].toArray }) fun b q eb => Heap.get?_push_of_some _ eb
  have S2 := S1.pushH (tk := s.toks) (p := P.exc none) { cls := .ref 180, data := .fields #[.ref s.heap.objs.size, .none, .none, .none, .bool false, .none] } ⟨rfl, rfl, _, rfl, rfl, rfl⟩
  have ez : (s.heap.push { cls := .type "tuple", data := .seq [v].toArray }).objs.size = s.heap.objs.size + 1 := Heap.size_push ..
  dsimp only at S2
  rw [ez] at S2
  refine codeAny_mono (w_tool_init (n := n) (under_make hA) F _ [.ref (s.heap.objs.size + 1), v] S2 (.cons rfl (.one hv))) fun q s' z => ?_
  cases z with
  | mk w F' d K e l S' hw hq =>
    obtain ⟨dx, rfl, rfl⟩ := hq
    subst e
    exact ⟨hw, F', .ptr (s.heap.objs.size + 1), _, l, S'.wk (.skip .rfl), rfl, _, dx, rfl, rfl⟩
theorem raise_own {ex : Expr} {pos : Pos} (h : EvQ X A (eval ex env) H fun d K => ∃ e dx, d = .ptr e ∧ K = (e, P.exc (some dx)) :: H') (hh : A.handled = none) (S : St X H F s) :
    wpAny X.M A (exec (.Raise (some ex) none pos) env) (fun _ _ => False) (GotX X H' F) s := by
  rw [arm_exec_Raise]
  show wpAny X.M A (do standAt pos; raiseStmt env (some (do let v ← eval ex env; standAt pos; pure v)) none) _ _ s
  refine wpAny_bind (wpAny_standAt ?_)
  unfold raiseStmt
  refine wpAny_bind (wpAny_bind (h.mono S fun v F₁ s₁ d K l₁ S₁ r q => wpAny_bind (wpAny_standAt (wpAny_pure ?_))))
  obtain ⟨e, dx, rfl, rfl⟩ := q
  cases (r : v = .ref e)
  obtain ⟨o, ho, hc, hd, vs, hv, hz, h1⟩ := exc_obj S₁ (.head _)
  have hC := S₁.hG
  have fin : GotX X H' F (.ref e) s₁ := ⟨e, dx, F₁, rfl, l₁, S₁⟩
  have hcB : (Value.ref 180 :: [.ref 167, .type "Exception", .type "BaseException", .type "object"]).contains (.type "BaseException") = true := by decide
  obtain ⟨hp, g, dd, tk, os⟩ := s₁
  repeat (first | (with_reducible refine wpAny_loadPart_at ho ?_; rw [hc]) | with_reducible refine wpAny_loadPart_at hC ?_ | (with_reducible refine wpAny_isSubtype_exc hC ?_; rw [hcB]) | wp_step)
  rw [hv]
  refine wpAny_pure ?_
  rw [h1]
  refine wpAny_pure ?_
  rw [if_neg (by decide)]
  exact wpAny_pure (wpAny_raiseNew_none hh fin)
end
end Mine
namespace Mine
/-- the frames that stand around are places that turn -/
structure FrOk (A : Around) (H : Hs) (l : List Env) : Prop where
  fr : A.frames = some l
  ok : ∀ env ∈ l, env.scope.kind ≠ .module ∧ ∃ L m, env.frame = some L ∧ (L, P.ns m) ∈ H
theorem FrOk.push {A : Around} {H : Hs} {l : List Env} {env : Env} {L : Addr} {m : List (Str × D)} (h : FrOk A H l) (hk : env.scope.kind = .function) (hf : env.frame = some L) {H' : Hs} (hL : (L, P.ns m) ∈ H') (hs : ∀ q ∈ H, q ∈ H') : FrOk (A.deeper env) H' (env :: l) where
  fr := Around.frames_deeper h.fr
  ok := fun e he => (List.mem_cons.mp he).elim (fun q => by subst q; exact ⟨(by rw [hk]; intro q; cases q), L, m, hf, hL⟩) fun q => by
    obtain ⟨a, L', m', b, c⟩ := h.ok e q
    exact ⟨a, L', m', b, hs _ c⟩
/-- an exception that flies through the frames -/
inductive Flew (X : Cx) (l : List Env) (H : Hs) (F : Fz) (v : Value) (s' : Shared) : Prop
  | mk (e : Addr) (base : Heap) (a0 : Value) (s0 : Shared) (F' : Fz) (ev : v = .ref e) (le : Le F F') (fly : Heap.FlyingW base l e (.ref 180) a0 s'.heap) (up : s0.heap.UpToSlots s'.heap) (sh : s' = { s0 with heap := s'.heap })
      (back : ∀ h'', base.StaysIn h'' → s0.heap.UpToSlots h'' → St X H F' { s0 with heap := h'' })
section
variable {X : Cx} {A : Around} {env : Env} {H H' H₁ H₂ K Z : Hs} {F : Fz} {s : Shared} {l : List Env}
theorem fun_frames {h base : Heap} (hb : ∀ env ∈ l, ∀ L, env.frame = some L → base.get? L = none) (S : ∀ q ∈ H, ∃ o, h.get? q.1 = some o ∧ ∃ F, q.2.is F o) (ok : ∀ env ∈ l, env.scope.kind ≠ .module ∧ ∃ L m, env.frame = some L ∧ (L, P.ns m) ∈ H) : h.FunFrames base l := by
  induction l with
  | nil => trivial
  | cons env l ih =>
    obtain ⟨a, L, m, b, c⟩ := ok env (.head _)
    obtain ⟨o, ho, F, hp⟩ := S _ c
    refine ⟨a, ⟨L, o, b, hb env (.head _) L b, ho, fun vs q => ?_⟩, ih (fun e he => hb e (.tail _ he)) fun e he => ok e (.tail _ he)⟩
    cases hp with
    | mk es ep d k r => rw [d] at q; cases q
theorem leave_first {dx e L : Addr} {E : Value → Shared → Prop} (S : St X ((e, .exc (some dx)) :: H) F s) (fo : FrOk A H (env :: l)) (hf : env.frame = some L) : wpAny X.M A (leaving env (.ref e)) (fun _ s' => Flew X l H F (.ref e) s') E s := by
  obtain ⟨o, ho, hc, hd, vs, hv, hz, h1⟩ := exc_obj S (.head _)
  obtain ⟨a0, h0⟩ : ∃ x, vs[0]? = some x := ⟨_, Array.getElem?_eq_getElem (by omega)⟩
  let as := (env :: l).filterMap (·.frame) ++ [e]
  have hin : ∀ en ∈ env :: l, ∀ L, en.frame = some L → L ∈ as := fun en he L hL => List.mem_append_left _ (List.mem_filterMap.mpr ⟨en, he, hL⟩)
  have hff : s.heap.FunFrames (hideAll s.heap as) (env :: l) := fun_frames (H := H) (fun en he L hL => hideAll_none _ (hin en he L hL)) (fun q hq => (S.tur q (.tail _ hq)).imp fun o z => ⟨z.1, F, z.2⟩) fo.ok
  have hen : (hideAll s.heap as).get? e = none := hideAll_none _ (List.mem_append_right _ (.head _))
  refine wpAny_leaving_firstW (base := hideAll s.heap as) fo.fr hff hf ho (fun b q hb => of_hideAll _ hb) hen hv h1 h0 fun h' hL => ?_
  obtain ⟨k1, ⟨_, _, k2⟩, k3, k4⟩ := hL
  rw [hc] at k3
  refine ⟨e, hideAll s.heap as, a0, s, F, rfl, .rfl, ⟨k1, hen, k2, k3⟩, k4, rfl, fun h'' st up => ?_⟩
  have frame_in : ∀ b, b ∈ (env :: l).filterMap (·.frame) → ∃ m, (b, P.ns m) ∈ H := fun b hb => by
    obtain ⟨en, he, hL⟩ := List.mem_filterMap.mp hb
    obtain ⟨_, L', m, b', c⟩ := fo.ok en he
    rw [hL] at b'; cases b'
    exact ⟨m, c⟩
  have S' := S.wk (.skip .rfl)
  refine ⟨S'.base, fun b q hb => st b q (hideAll_get _ (S'.frz b q hb) fun hm => ?_), fun q hq => ?_, S'.nd, S'.sep, S'.gens, S'.os⟩
  · rcases List.mem_append.mp hm with hm | hm
    · obtain ⟨m, c⟩ := frame_in b hm
      have : F b = none := S'.sep _ c
      rw [hb] at this; cases this
    · rw [List.mem_singleton] at hm; subst hm
      have : F b = none := S.sep (b, .exc (some dx)) (.head _)
      rw [hb] at this; cases this
  · obtain ⟨o', ho', hp⟩ := S'.tur q hq
    by_cases hm : q.1 ∈ (env :: l).filterMap (·.frame)
    · obtain ⟨m, c⟩ := frame_in _ hm
      have eq : q = (q.1, P.ns m) := by
        have nd := S'.nd
        obtain ⟨l1, r1, e1⟩ := List.append_of_mem c
        rw [e1] at hq nd
        rw [List.map_append, List.map_cons, List.nodup_append, List.nodup_cons] at nd
        rcases List.mem_append.mp hq with h | h
        · exact absurd rfl (nd.2.2 q.1 (List.mem_map_of_mem h) q.1 List.mem_cons_self)
        · rcases List.mem_cons.mp h with h | h
          · exact h
          · exact absurd (List.mem_map_of_mem (f := fun x : Addr × P => x.1) h) nd.2.1.1
      rw [eq] at hp
      cases hp with
      | mk es ep d k r =>
        obtain ⟨sl, hs⟩ := up q.1 o' ho' fun vs q => by rw [d] at q; cases q
        refine ⟨_, hs, ?_⟩
        rw [eq]
        exact .mk es ep d k r
    · refine ⟨o', st _ _ (hideAll_get _ ho' fun h => ?_), hp⟩
      rcases List.mem_append.mp h with h | h
      · exact hm h
      · rw [List.mem_singleton] at h; exact S.head_ne q hq h
theorem leave_next {L : Addr} {v : Value} {E : Value → Shared → Prop} (z : Flew X (env :: l) H F v s) (fr : A.frames = some (env :: l)) (hf : env.frame = some L) : wpAny X.M A (leaving env v) (fun _ s' => Flew X l H F v s') E s := by
  cases z with
  | mk e base a0 s0 F' ev le fly up sh back =>
    subst ev
    refine wpAny_leaves_onW fr hf fly fun h' fl' up' => ?_
    exact ⟨e, base, a0, s0, F', rfl, le, fl', up.trans up', by rw [sh], back⟩
theorem Flew.weak {v : Value} (z : Flew X l H F v s) {F₀ : Fz} (le : Le F₀ F) (w : Wk H H') : Flew X l H' F₀ v s := by
  cases z with
  | mk e base a0 s0 F' ev le' fly up sh back => exact ⟨e, base, a0, s0, F', ev, le.trans le', fly, up, sh, fun h a b => (back h a b).wk w⟩
/-- caught by the text's own GrammarError -/
theorem caught {L : Addr} {v : Value} {t : Expr} {b₀ : Stmt} {suite : List Stmt} {pos : Pos} {rest : List ExceptHandler} {R : Out → Hs → Prop} (z : Flew X (env :: l) H F v s) (fr : A.frames = some (env :: l)) (hf : env.frame = some L)
    (ht : ∀ (B : Around) F s (Q : Value → Shared → Prop) (E : Value → Shared → Prop), St X H F s → Q (.ref 180) s → wpAny X.M B (eval t env) Q E s) (hb : ∀ e, Ex X (A.mark (some (.ref e))) (execs (b₀ :: suite) env) H R) :
    wpAny X.M A (noteFrame v env) (fun _ s₂ => wpAny X.M A (setFlight v none) (fun _ s₃ => wpAny X.M A (handleBy v env (.ExceptHandler (some t) none (b₀ :: suite) pos :: rest)) (GotF X R F) (fun _ _ => False) s₃) (fun _ _ => False) s₂) (fun _ _ => False) s := by
  cases z with
  | mk e base a0 s0 F' ev le fly up sh back =>
    subst ev
    refine wpAny_looks_onW fr hf fly fun h₁ held up₁ => ?_
    refine wpAny_landsW held fun h₂ fly₂ up₂ => ?_
    have U₂ := (up.trans up₁).trans up₂
    have S₂ := back h₂ fly₂.1 U₂
    have sh₂ : { s with heap := h₂ } = { s0 with heap := h₂ } := by rw [sh]
    dsimp only at sh₂ ⊢
    rw [sh₂]
    obtain ⟨oe, hoe, hoc⟩ := fly₂.there
    obtain ⟨f1, f2, f3, f4⟩ := fly₂
    refine wpAny_handleBy_cons (codeAny_handlers_test (ht _ _ _ _ _ S₂ (wpAny_excMatches_sub_self S₂.hG hoe hoc (by decide) ?_))) (by intro q; cases q)
    refine codeAny_handlers_suite (wpAny_setFlight_noneW f1 f3 f4.at fun h₃ k1 k2 k3 k4 => ?_)
    have S₃ := back h₃ k1 (U₂.trans fun b o hb hn => ⟨o.slots, k4 b o hb hn⟩)
    exact wpAny_mono (hb e F' _ S₃) (fun f s' z => z.elim fun F₄ H₄ o l₄ S₄ q k => ⟨F₄, H₄, o, le.trans l₄, S₄, q, k⟩) fun _ _ q => q.elim
theorem glob_here {t : Expr} {x : Str} {v : Value} {Q : Value → Shared → Prop} {E : Value → Shared → Prop} (he : t = .Name x t.pos) (hb : gloB env x = true) (hv : nsIn (Frg X.w) mainGlobals x = some (some v)) (S : St X H F s) (q : Q v s) : wpAny X.M A (eval t env) Q E s := by
  rw [he]
  have z := gloB.all hb
  exact Name_function_global z.1 z.2.1 (loadGlobal_global (by rw [z.2.2.1]; exact X.g.keeps S.hbk) (mg_of X.K X.g hv) q) z.2.2.2.2.2
end
end Mine
namespace Mine
section
variable {X : Cx} {A : Around} {env : Env} {H H' H₁ H₂ K : Hs} {ss : List Stmt}
/-- a call that raises -/
def FnX (X : Cx) (A : Around) (f : Value) (ds : List D) (H : Hs) (l : List Env) : Prop :=
  ∀ F s vs, St X H F s → RepL F vs ds → codeAny X.M A (.call f ⟨vs, []⟩) (fun x s' => ∃ v, x = .error v ∧ Flew X l H F v s') s
theorem fn_enterX {l : List Env} {a c : Addr} {fd : FuncData} {body : List Stmt} {ks : List Str} {ds es : List D} (ho : (Frg X.w).lookup a = some { cls := .type "function", data := .func fd }) (hc : (a, c) ∈ csK) (hcode : fd.code = .ref c) (hq : fnQual (Frg X.w) a = some fd.qualname)
    (hroom : A.depth < recursionLimit) (hbody : fd.body = .stmts body) (hclo : fd.closure = [])
    (hbind : ∀ F s vs, St X H F s → RepL F vs ds → ∃ us, RepL F us es ∧ BindsTo s fd ⟨vs, []⟩ (ks.zip us)) (hnd : ks.Nodup) (hlen : ks.length = es.length)
    (hkind : ∀ n, (ks.all fun x => fd.scope.names.lookup x == some .local || (fd.scope.names.lookup x == some .cell && ((cellsFrom n fd.scope.names []).lookup x).isSome)) = true)
    (hcn : ∀ n, ((cellsFrom n fd.scope.names []).map (·.1)).Nodup) (hck : ∀ n, ∀ q ∈ cellsFrom n fd.scope.names [], fd.scope.names.lookup q.1 ≠ some .local)
    {m : List (Str × D)} (hm : (ks.zip es).filter (fun q => fd.scope.names.lookup q.1 == some .local) = m) {cs : Addr → Hs} (hcs : ∀ L, cellHs (ks.zip es) (cellsFrom (L + 1) fd.scope.names []) = cs L)
    (h : ∀ L F s, St X ((L, .ns m) :: (cs L ++ H)) F s → wpAny X.M (A.deeper (callEnvC fd L a)) (execs body (callEnvC fd L a)) (fun _ _ => False) (fun v s' => ∃ m' K, GotX X ((L, .ns m') :: (K ++ H)) F v s') s) (fo : FrOk A H l)
    (hco : fd.scope.isCoroutine = false) (hgen : fd.scope.isGenerator = false) (hk : fd.scope.kind = .function) : FnX X A (.ref a) ds H l := fun F s vs S r => by
  obtain ⟨us, ru, hb⟩ := hbind F s vs S r
  obtain ⟨q, hq', hcd⟩ := X.code _ hc
  rw [hq] at hq'
  cases hq'
  refine codeAny_call_function hroom (S.kIn _ _ ho) rfl hco hgen hbody (hcode ▸ hcd.keeps S.hbk) (hb _ _ _ _ ?_)
  rw [hclo]
  refine wpAny_newFunctionEnv_cells hk (fun x hx => ?_) fun ev he s' Y => ?_
  · have h1 := List.all_eq_true.mp (hkind (s.heap.objs.size + 1)) x.1 (List.of_mem_zip hx).1
    rw [Bool.or_eq_true, Bool.and_eq_true, beq_iff_eq, beq_iff_eq] at h1
    exact h1
  subst he
  obtain ⟨⟨same, ns, keep, fresh⟩, cell, apart, above⟩ := Y
  obtain ⟨h₁, tk, rfl⟩ := same
  obtain ⟨ol, eso, ep, hol, hdl, hks, hfl⟩ := ns
  have hcells : ∀ q ∈ cellsFrom (s.heap.objs.size + 1) fd.scope.names [], ∃ o, h₁.get? q.2 = some o ∧ (P.cell ((ks.zip es).lookup q.1)).is F o := fun q hq => by
    have hl : (cellsFrom (s.heap.objs.size + 1) fd.scope.names []).lookup q.1 = some q.2 := by
      have hn := hcn (s.heap.objs.size + 1)
      revert hq hn
      generalize cellsFrom (s.heap.objs.size + 1) fd.scope.names [] = cs
      intro hq hn
      induction cs with
      | nil => cases hq
      | cons c cs ih =>
        rw [List.map_cons, List.nodup_cons] at hn
        rw [List.lookup_cons]
        rcases List.mem_cons.mp hq with e | hq
        · subst e; rw [beq_self_eq_true]
        · have : (q.1 == c.1) = false := beq_eq_false_iff_ne.mpr fun e => hn.1 (e ▸ List.mem_map_of_mem (f := fun x : Str × Addr => x.1) hq)
          rw [this]; exact ih hq hn.2
    obtain ⟨o, ho, hd⟩ := cell _ _ hl
    have hkn := hck _ q hq
    have hb2 := lookup_bindC (kindOf := (newEnv fd.scope s.heap.objs.size fd.globals (cellsFrom (s.heap.objs.size + 1) fd.scope.names []) (fd.qualname ++ ".<locals>.") (some a) fd.code none fd.builtins).kindOf) (x := q.1) (m := fun _ => none) hkn hnd ru
    refine ⟨o, ho, ?_⟩
    cases hlk : (ks.zip es).lookup q.1 with
    | none => exact .mk _ hd (fun _ => hb2.2 hlk) fun _ e => by cases e
    | some d' => exact .mk _ hd (fun e => by cases e) fun d2 e => by cases e; exact hb2.1 _ hlk
  have S2 := S.fresh (tk := tk) (N := (s.heap.objs.size, .ns m) :: cellHs (ks.zip es) (cellsFrom (s.heap.objs.size + 1) fd.scope.names [])) keep (fun q hq => (List.mem_cons.mp hq).elim (fun e => e ▸ ⟨ol, hol, .mk eso ep hdl hks fun x e hx => by
      rw [hfl]
      have hx2 := mem_of_lookup hx
      rw [← hm, List.mem_filter, beq_iff_eq] at hx2
      exact lookup_bindL hnd ru hx2.1 hx2.2⟩) fun hq => (List.mem_map.mp hq).elim fun p z => z.2 ▸ hcells p z.1) (by
    rw [List.map_cons]
    refine List.nodup_cons.mpr ⟨fun hh => ?_, by unfold cellHs; rw [List.map_map]; exact (List.pairwise_map.mpr apart : List.Pairwise _ _)⟩
    obtain ⟨q, hq, e⟩ := List.mem_map.mp hh
    obtain ⟨p, hp, e'⟩ := List.mem_map.mp hq
    exact Nat.ne_of_gt (above p.1 p.2 hp) ((congrArg (·.1) e').trans e)) fun q hq => (List.mem_cons.mp hq).elim (fun e => e ▸ Nat.le_refl _) fun hq => (List.mem_map.mp hq).elim fun p z => z.2 ▸ Nat.le_of_lt (above p.1 p.2 z.1)
  refine ⟨S2.lim, codeAny_func ?_⟩
  refine wpAny_mono (h s.heap.objs.size F _ (hcs _ ▸ S2)) (fun _ _ q => q.elim) fun v s' z => ?_
  obtain ⟨m', K, z⟩ := z
  cases z with
  | mk e dx F' ev l' S' =>
    subst ev
    have fo' : FrOk (A.deeper (callEnvC fd s.heap.objs.size a)) ((s.heap.objs.size, .ns m') :: (K ++ H)) (callEnvC fd s.heap.objs.size a :: l) := fo.push hk rfl (.head _) fun q hq => .tail _ (List.mem_append_right _ hq)
    exact wpAny_mono (leave_first S' fo' rfl) (fun _ s'' z => ⟨_, rfl, z.weak l' (.skip .drop)⟩) fun _ _ q => q
/-- a block that raises -/
def ExX (X : Cx) (A : Around) (t : Sem Flow) (H H' : Hs) : Prop := ∀ F s, St X H F s → wpAny X.M A t (fun _ _ => False) (GotX X H' F) s
theorem GotX.le {F F' : Fz} {v : Value} {s : Shared} (l : Le F F') (z : GotX X H F' v s) : GotX X H F v s := by
  cases z with | mk e dx F2 ev l2 S => exact ⟨e, dx, F2, ev, l.trans l2, S⟩
theorem exx_assign {x : Str} {d : D} (he : ss = .Assign [.Name x (z1 ss).pos] (z0 ss) (posS ss) :: ss.tail) (h : Ev X A (eval (z0 ss) env) H d H₁) (a : Bnd X A env x d H₁ H₂) (hs : swapsWith (z0 ss) (some (.Name x (z1 ss).pos)) (posS ss).line env = pure false) (k : ExX X A (execs ss.tail env) H₂ H') : ExX X A (execs ss env) H H' := fun F s S => by
  rw [he]
  refine wpAny_execs_cons ?_
  rw [exec_Assign_Name env _ _ _ _ hs]
  refine wpAny_bind (wpAny_standAt (wpAny_bind (h.mono S fun v F₁ s₁ l₁ S₁ r₁ => ?_)))
  exact wpAny_bind (wpAny_standAt (wpAny_bind (wpAny_mono (a F₁ s₁ v S₁ r₁) (fun _ s₂ z => z.elim fun F₂ l₂ S₂ => wpAny_pure (wpAny_mono (k F₂ s₂ S₂) (fun _ _ q => q) fun v' s' q => q.le (l₁.trans l₂))) fun _ _ e => e.elim)))
theorem exx_if {b : Bool} (he : ss = .If (z0 ss) (bodyS ss) (elseS ss) (posS ss) :: ss.tail) (h : Tests X A (z0 ss) env H b H₁) (hb : b = true) (k : ExX X A (execs (bodyS ss) env) H₁ H') : ExX X A (execs ss env) H H' := fun F s S => by
  rw [he]
  refine wpAny_execs_cons (wpAny_If ((h _ rfl).mono S fun F₁ s₁ l₁ S₁ => ?_))
  subst hb
  exact wpAny_mono (k F₁ s₁ S₁) (fun _ _ q => q.elim) fun v' s' q => q.le l₁
theorem exx_raise {p : Pos} (he : ss = .Raise (some (z0 ss)) none p :: ss.tail) (hh : A.handled = none) (h : EvQ X A (eval (z0 ss) env) H fun d K => ∃ e dx, d = .ptr e ∧ K = (e, P.exc (some dx)) :: H') : ExX X A (execs ss env) H H' := fun F s S => by
  rw [he]
  exact wpAny_execs_cons (wpAny_mono (raise_own h hh S) (fun _ _ q => q.elim) fun _ _ q => q)
/-- a tree whose call raises -/
def EvX (X : Cx) (A : Around) (t : Sem Value) (H : Hs) (l : List Env) : Prop := ∀ F s, St X H F s → wpAny X.M A t (fun _ _ => False) (Flew X l H F) s
theorem evx_call1 {e : Expr} {f : Value} {d₁ : D} {l : List Env} (hE : CallE e env) (ha : (kids e).tail = [k1 e]) (hs : starEach [k1 e] env = [(false, eval (k1 e) env)]) (h : Ev X A (eval (k0 e) env) H (.val f) H) (k : Kept X f) (h₁ : Ev X A (eval (k1 e) env) H d₁ H) (hc : FnX X A f [d₁] H l) : EvX X A (eval e env) H l := fun F s S => by
  rw [hE]
  refine wpAny_bind (h.mono S fun v F₁ s₁ l₁ S₁ r₁ => ?_)
  cases (r₁ : v = f)
  rw [ha, hs]
  refine callWith_of (P := fun hh => (Frg X.w).In hh) rfl (fun hh K => k.looks K) (evalArgs_of rfl ?_)
  show wpAny X.M A (spliced [(false, eval (k1 e) env)]) _ _ s₁
  exact spliced_cons (h₁.mono S₁ fun v F₂ s₂ l₂ S₂ r₂ => spliced_nil ⟨S₂.kIn, wpAny_call (codeAny_mono (hc F₂ s₂ _ S₂ (.one r₂)) fun r s' z => by
    obtain ⟨v, rfl, z⟩ := z
    exact z.weak (l₁.trans l₂) .rfl)⟩)
end
end Mine
namespace Mine
theorem fn_inX {X : Cx} {A : Around} {H : Hs} {l : List Env} {a c : Addr} {fd : FuncData} {ks cn : List Str} {ds : List D} {cs : Nat → List (Str × Addr)} (ho : (Frg X.w).lookup a = some { cls := .type "function", data := .func fd }) (hc : csK.contains (a, c) = true) (hcode : fd.code = .ref c) (hq : fnQual (Frg X.w) a = some fd.qualname)
    (hroom : A.depth < recursionLimit) (hbody : fd.body = .stmts (stmtsOf fd.body)) (hb : AllV ks.length fun vs => ∀ s, (Frg X.w).In s.heap → BindsTo s fd ⟨vs, []⟩ (ks.zip vs)) (hlen : ks.length = ds.length) (hk : chk fd ks cn = true) (hcells : ∀ n, cellsFrom n fd.scope.names [] = cs n) (hfst : ∀ n, (cs n).map (·.1) = cn)
    (h : ∀ L F s, St X ((L, .ns (locs fd ks ds)) :: (cellHs (ks.zip ds) (cs (L + 1)) ++ H)) F s → wpAny X.M (A.deeper (callEnvC fd L a)) (execs (stmtsOf fd.body) (callEnvC fd L a)) (fun _ _ => False) (fun v s' => ∃ m' K, GotX X ((L, .ns m') :: (K ++ H)) F v s') s) (fo : FrOk A H l) : FnX X A (.ref a) ds H l := by
  unfold chk at hk
  simp only [Bool.and_eq_true, Bool.not_eq_true', decide_eq_true_eq, beq_iff_eq] at hk
  obtain ⟨h1, h2, h3, h4, h5, h6, h7, h8⟩ := hk
  refine fn_enterX ho (List.contains_iff_mem.mp hc) hcode hq hroom hbody (List.isEmpty_iff.mp h8) (fun F s vs S r => ⟨vs, r, hb.get (r.1.trans hlen.symm) s S.kIn⟩) h1 hlen (fun n => ?_) (fun n => ?_) (fun n q hq e => ?_) rfl (fun L => by rw [hcells]) h fo h5 h6 h7
  · rw [hcells]
    refine List.all_eq_true.mpr fun x hx => ?_
    have := List.all_eq_true.mp h4 x hx
    rw [Bool.or_eq_true] at this ⊢
    refine this.imp id fun z => ?_
    rw [Bool.and_eq_true] at z ⊢
    exact ⟨z.1, lookup_fst (by rw [hfst]; exact z.2)⟩
  · rw [hcells, hfst]; exact h2
  · rw [hcells] at hq
    have hm : q.1 ∈ cn := by have := List.mem_map_of_mem (f := fun x : Str × Addr => x.1) hq; rwa [hfst] at this
    have := List.all_eq_true.mp h3 _ hm
    rw [e] at this
    cases this
section
variable {X : Cx} {A : Around} {H : Hs} {n : Nat} {g : Gram} {l : List Env}
theorem w_reducedX (hA : Rm A (n + 6)) (hg : g.Ok) (h0 : 0 < g.rules.length) (hu : ubB g 0 = false) (hst : g.start < g.names.length) (hz : (nm g g.start).length ≤ 100) (fo : FrOk A H l) : FnX X A (.ref 214) [dGram X g] H l := by
  refine fn_inX (fd := fdRD) (c := 213) (ks := ["grammar"]) (cn := ["needed", "usable"]) (cs := fun n => [("needed", n + 1), ("usable", n)]) (ds := [dGram X g]) rfl rfl rfl rfl hA.lt rfl (fun _ s K => .of_eq rfl) rfl rfl (fun _ => rfl) (fun _ => rfl) (fun L F s S => ?_) fo
  have hB : Rm (A.deeper (callEnvC fdRD L 214)) (n + 5) := hA.deeper
  have hrz := hg.rz
  have hnz := hg.nz
  have h5 : 10000 ≤ sizeLine := by decide
  refine wpAny_mono ((?_ : ExX X (A.deeper (callEnvC fdRD L 214)) (execs (stmtsOf fdRD.body) (callEnvC fdRD L 214)) ((L, P.ns [("grammar", dGram X g)]) :: (L + 2, P.cell none) :: (L + 1, P.cell none) :: H) ((L, P.ns [("grammar", dGram X g)]) :: ([(L + 2, P.cell none), (L + 1, P.cell (some (.lst (bL g.rules.length (ubB g)))))] ++ H))) F s S) (fun _ _ q => q) fun v s' z => ⟨_, _, z⟩
  apply exx_assign
  rfl
  apply call1
  rfl
  rfl
  rfl
  exact ev_global rfl rfl rfl
  first | exact .inl ⟨_, rfl⟩ | exact .inr (.inl ⟨_, rfl⟩) | exact .inr (.inr (by kernel_rfl))
  exact ev_local rfl rfl rfl
  exact (w_useful (n := n + 1) hB hg).call
  apply bnd_cell
  rfl
  rfl
  first | exact .head _ | exact .tail _ (.head _) | exact .tail _ (.tail _ (.head _)) | exact .tail _ (.tail _ (.tail _ (.head _))) | exact .tail _ (.tail _ (.tail _ (.tail _ (.head _)))) | exact .tail _ (.tail _ (.tail _ (.tail _ (.tail _ (.head _))))) | exact .tail _ (.tail _ (.tail _ (.tail _ (.tail _ (.tail _ (.head _))))))
  first | exact Up.head | exact Up.tail Up.head | exact Up.tail (Up.tail Up.head) | exact Up.tail (Up.tail (Up.tail Up.head)) | exact Up.tail (Up.tail (Up.tail (Up.tail Up.head))) | exact Up.tail (Up.tail (Up.tail (Up.tail (Up.tail Up.head)))) | exact Up.tail (Up.tail (Up.tail (Up.tail (Up.tail (Up.tail Up.head)))))
  rfl
  apply exx_if
  rfl
  apply ask_not
  rfl
  apply ask_plain
  apply ev_item (k := 0)
  rfl
  apply ev_cell
  rfl
  rfl
  rfl
  first | exact .head _ | exact .tail _ (.head _) | exact .tail _ (.tail _ (.head _)) | exact .tail _ (.tail _ (.tail _ (.head _))) | exact .tail _ (.tail _ (.tail _ (.tail _ (.head _)))) | exact .tail _ (.tail _ (.tail _ (.tail _ (.tail _ (.head _))))) | exact .tail _ (.tail _ (.tail _ (.tail _ (.tail _ (.tail _ (.head _))))))
  exact ev_int rfl
  exact sq
  exact bL_at h0
  exact Nat.le_of_ble_eq_true rfl
  exact fun _ _ => rfl
  exact fun _ => rfl
  rw [hu]; rfl
  apply exx_raise rfl hB.hh
  apply evq_call
  rfl
  exact ev_global rfl rfl rfl
  first | exact .inl ⟨_, rfl⟩ | exact .inr (.inl ⟨_, rfl⟩) | exact .inr (.inr (by kernel_rfl))
  apply as_cons
  rfl
  rfl
  apply ev_bin
  rfl
  apply ev_bin
  rfl
  exact ev_str rfl
  apply ev_item
  rfl
  exact lG rfl rfl rfl rfl
  exact lG rfl rfl rfl rfl
  exact sq
  exact map_at (nm_at hst)
  exact sz64 (by omega)
  exact fun _ _ => rfl
  exact op_str (by rw [show (PySem.Str.ofString "the start symbol ").length = 17 from by decide +kernel]; omega)
  exact ev_str rfl
  exact op_str (by rw [strLen_append, show (PySem.Str.ofString "the start symbol ").length = 17 from by decide +kernel, show (PySem.Str.ofString " has no word").length = 12 from by decide +kernel]; omega)
  exact as_nil
  exact callq_exc (n := n + 3) hB
end
end Mine
namespace Mine
noncomputable def parE (e : Expr) : Arguments := Expr.casesOn (motive_1 := fun _ => Arguments) e (fun _ _ _ => default) (fun _ _ _ => default) (fun _ _ _ _ => default) (fun _ _ _ => default) (fun a _ _ _ => a) (fun _ _ _ _ => default) (fun _ _ _ => default) (fun _ _ _ => default)
  (fun _ _ _ _ => default) (fun _ _ _ _ => default) (fun _ _ _ _ _ => default) (fun _ _ _ _ => default) (fun _ _ => default) (fun _ _ => default) (fun _ _ => default) (fun _ _ _ _ => default) (fun _ _ _ _ => default) (fun _ _ _ _ => default) (fun _ _ => default) (fun _ _ _ => default)
  (fun _ _ _ => default) (fun _ _ _ => default) (fun _ _ => default) (fun _ _ => default) (fun _ _ => default) (fun _ _ _ => default) (fun _ _ _ _ => default)
/-- what the law's own code must hold, for a def within it -/
structure LamOk (X : Cx) : Prop where
  code : CodeHd X.hb 278 276
  bui : X.hb.BuiltinsAt X.mg 276
noncomputable def P.tab : P := ⟨fun _ o => ∃ ps, o = tabObj ps, fun _ h => h⟩
noncomputable def D.lam (e : Expr) (qual : Str) (clos : List (Str × Addr)) : D := ⟨fun F v => ∃ f c' oc vs t pm ctv, v = .ref f ∧ F f = some (kla_obj "<lambda>" qual (parE e) (k0 e) (scopeE e) clos pm c' ctv) ∧ F c' = some oc ∧ oc.data = .fields vs ∧ vs[1]? = some (.str qual t),
  fun h ⟨f, c', oc, vs, t, pm, ctv, a, b, c, d⟩ => ⟨f, c', oc, vs, t, pm, ctv, a, h _ _ b, h _ _ c, d⟩⟩
section
variable {X : Cx} {A : Around} {env : Env} {H H' H₁ H₂ K : Hs} {ss : List Stmt} {n : Nat} {l : List Env}
theorem ev_lam {e : Expr} {clos : List (Str × Addr)} (hX : LamOk X) (he : e = .Lambda (parE e) (k0 e) (scopeE e) e.pos) (hdef : defaultsOf (parE e) env = ([], [])) (hcl : closureFor (scopeE e) env = pure clos) (hge : env.globals = mainGlobals) (hcode : env.code = .ref 278)
    (hm : (276, P.raw (tabObj #[])) ∈ H) (u : Up 276 .tab H H') : Ev X A (eval e env) H (D.lam e (env.qual ++ "<lambda>") clos) H' := fun F s S => by
  rw [he]
  obtain ⟨o, ho, hp⟩ := S.tur _ hm
  cases (hp : o = tabObj #[])
  rw [← he]
  refine he ▸ kla_eval hdef ?_
  refine kla_makeFunction (mg := X.mg) (c := 278) (P := 276) (ps := #[]) hcl hge (X.g.keeps S.hbk) hcode (hX.code.keeps S.hbk) ho trivial rfl (by decide) (hX.bui.keeps S.hbk) fun c' ctv h' tk hx hge' hlt hrec htb => ?_
  obtain ⟨c₂, oc, vs, t, e2, hoc, hd, hv⟩ := hrec
  cases e2
  have S1 : St X H' F { s with heap := h', toks := tk } := S.up u (fun b q hb eb => hx b q hb eb) htb ⟨_, rfl⟩
  have hF : F c' = none := by
    cases q : F c' with
    | none => rfl
    | some o => exact absurd (S.lt q) (Nat.not_lt.mpr hge')
  have hHn : ∀ q ∈ H', q.1 ≠ c' := fun q hq e => by
    have hk : q.1 ∈ H.map (·.1) := u.keys ▸ List.mem_map_of_mem hq
    obtain ⟨p, hp, e3⟩ := List.mem_map.mp hk
    exact absurd (S.mlt hp) (Nat.not_lt.mpr (by rw [e3, e]; exact hge'))
  have S2 : St X H' (F.put c' oc) { s with heap := h', toks := tk } := S1.grow (Fz.put_le hF) fun b q eb => by
    rcases Fz.put_of eb with ⟨rfl, rfl⟩ | eb
    · exact .inr ⟨hoc, hHn⟩
    · exact .inl eb
  have S3 := S2.pushF (tk := tk) (kla_obj "<lambda>" (env.qual ++ "<lambda>") (parE e) (k0 e) (scopeE e) clos ((X.mg "__name__").getD .none) c' ctv)
  have l1 := Fz.put_le (o := oc) hF
  have l2 := Fz.put_le (o := kla_obj "<lambda>" (env.qual ++ "<lambda>") (parE e) (k0 e) (scopeE e) clos ((X.mg "__name__").getD .none) c' ctv) S2.new
  exact ⟨_, l1.trans l2, S3, h'.objs.size, c', oc, vs, t, _, ctv, rfl, Fz.put_at, l2 _ _ Fz.put_at, hd, hv⟩
noncomputable abbrev lamEnv (e : Expr) (qual : Str) (clos : List (Str × Addr)) (L f c' : Addr) : Env := newEnv (scopeE e) L mainGlobals clos (qual ++ ".<locals>.") (some f) (.ref c') none builtinsNs
theorem lam_enter {e : Expr} {qual : Str} {clos : List (Str × Addr)} {F : Fz} {s : Shared} {f : Value} {R : Result → Shared → Prop} (hroom : A.depth < recursionLimit) (S : St X H F s) (hv : (D.lam e qual clos).is F f)
    (hpar : ∀ pm cv ctv, bindArgs (kla_fn "<lambda>" qual (parE e) (k0 e) (scopeE e) clos pm cv ctv) ⟨[], []⟩ = pure []) (hc : ∀ x ∈ (scopeE e).names, x.2 ≠ .cell) (hco : (scopeE e).isCoroutine = false) (hgen : (scopeE e).isGenerator = false) (hk : (scopeE e).kind = .function)
    (h : ∀ L f c' s', St X ((L, .ns []) :: H) F s' → wpAny X.M (A.deeper (lamEnv e qual clos L f c')) (eval (k0 e) (lamEnv e qual clos L f c')) (fun v s' => R (.ok (.ret v)) s') (fun e' s' => wpAny X.M (A.deeper (lamEnv e qual clos L f c')) (leaving (lamEnv e qual clos L f c') e') (fun _ s'' => R (.error e') s'') (fun e'' s'' => R (.error e'') s'') s') s') :
    codeAny X.M A (.call f ⟨[], []⟩) R s := by
  obtain ⟨fa, c', oc, vs, t, pm, ctv, rfl, hf, hoc, hd, hv⟩ := hv
  refine kla_callFunE hroom (S.frz _ _ hf) rfl hco hgen rfl ⟨c', oc, vs, t, rfl, S.frz _ _ hoc, hd, hv⟩ ?_
  rw [hpar]
  refine wpAny_pure (wpAny_newFunctionEnv hc (by intro y hy; cases hy) (fun h₁ hns hsb => ?_) hk)
  obtain ⟨on, esn, epn, hon, hdn, hkn, hfn⟩ := hns
  have S1 := S.more (p := P.ns []) (tk := s.toks + ([] : List (Str × Value)).length) (fun b q eb => hsb.extBut b q (Nat.ne_of_lt (Heap.lt_size eb)) (Heap.get?_push_of_some _ eb)) hon (Nat.le_refl _) (.mk esn epn hdn hkn fun _ _ h => by cases h)
  exact ⟨S1.lim, kla_codeExpr (h _ fa c' _ S1)⟩
/-- a value of the call's own is called -/
theorem call_lam {e : Expr} {qual : Str} {clos : List (Str × Addr)} {F : Fz} {s : Shared} {f : Value} {pos : Pos} {Q : Value → Shared → Prop} {E : Value → Shared → Prop} (S : St X H F s) (hv : (D.lam e qual clos).is F f) (h : wpAny X.M A (call f [] []) Q E s) : wpAny X.M A (callWith pos f [] (backTo pos (starEach [] env)) []) Q E s := by
  obtain ⟨fa, c', oc, vs, t, pm, ctv, rfl, hf, hoc, hd, hv⟩ := hv
  refine callWith_of (P := fun hh => hh.get? fa = some (kla_obj "<lambda>" qual (parE e) (k0 e) (scopeE e) clos pm c' ctv)) rfl (fun hh k => ⟨.frame, .inl rfl, (Looks.ld k).andThen .now⟩) (evalArgs_of rfl ?_)
  exact spliced_nil ⟨S.frz _ _ hf, h⟩
end
end Mine
namespace Mine
noncomputable abbrev fdLW : FuncData := fdOf (topAt 28) "" .none pmL 278
noncomputable abbrev fdON : FuncData := fdOf (topAt 27) "" .none pmL 273
noncomputable abbrev lamE : Expr := k1 (z0 (stmtsOf fdLW.body).tail.tail.tail.tail.tail.tail.tail.tail.tail.tail)
section
variable {X : Cx} {A : Around} {env : Env} {H H' H₁ H₂ K : Hs} {ss : List Stmt} {n : Nat} {l : List Env} {g : Gram} {qual : Str} {cg : Addr}
theorem lam_ok (hA : Rm A (n + 7)) {F : Fz} {s : Shared} {f : Value} (S : St X H F s) (hv : (D.lam lamE qual [("grammar", cg)]).is F f) (hm : (cg, P.cell (some (dGram X g))) ∈ H)
    (hg : g.Ok) (h0 : 0 < g.rules.length) (hu : ubB g 0 = true) (hk : (redOf g).Ok) (hst : g.start < g.names.length) : codeAny X.M A (.call f ⟨[], []⟩) (GotR X H (dGram X (redOf g)) F) s := by
  refine lam_enter hA.lt S hv (fun _ _ _ => rfl) (by decide) rfl rfl rfl fun L f c' s' S' => ?_
  have hB : Rm (A.deeper (lamEnv lamE qual [("grammar", cg)] L f c')) (n + 6) := hA.deeper
  have : Ev X (A.deeper (lamEnv lamE qual [("grammar", cg)] L f c')) (eval (k0 lamE) (lamEnv lamE qual [("grammar", cg)] L f c')) ((L, .ns []) :: H) (dGram X (redOf g)) ((L, .ns []) :: H) := by
    apply call1
    rfl
    rfl
    rfl
    exact ev_global rfl rfl rfl
    first | exact .inl ⟨_, rfl⟩ | exact .inr (.inl ⟨_, rfl⟩) | exact .inr (.inr (by kernel_rfl))
    exact ev_cell rfl rfl rfl (.tail _ hm)
    exact (w_reduced (n := n) hB hg h0 hu hk hst).call
  exact this.mono S' fun v F₁ s₁ l₁ S₁ r₁ => ⟨v, F₁, rfl, l₁, S₁.wk (.skip .rfl), r₁⟩
theorem lam_x (hA : Rm A (n + 7)) {F : Fz} {s : Shared} {f : Value} (S : St X H F s) (hv : (D.lam lamE qual [("grammar", cg)]).is F f) (hm : (cg, P.cell (some (dGram X g))) ∈ H)
    (hg : g.Ok) (h0 : 0 < g.rules.length) (hu : ubB g 0 = false) (hst : g.start < g.names.length) (hz : (nm g g.start).length ≤ 100) (fo : FrOk A H l) : codeAny X.M A (.call f ⟨[], []⟩) (fun x s' => ∃ v, x = .error v ∧ Flew X l H F v s') s := by
  refine lam_enter hA.lt S hv (fun _ _ _ => rfl) (by decide) rfl rfl rfl fun L f c' s' S' => ?_
  have hB : Rm (A.deeper (lamEnv lamE qual [("grammar", cg)] L f c')) (n + 6) := hA.deeper
  have fo' : FrOk (A.deeper (lamEnv lamE qual [("grammar", cg)] L f c')) ((L, .ns []) :: H) (lamEnv lamE qual [("grammar", cg)] L f c' :: l) := fo.push rfl rfl (.head _) fun q hq => .tail _ hq
  have : EvX X (A.deeper (lamEnv lamE qual [("grammar", cg)] L f c')) (eval (k0 lamE) (lamEnv lamE qual [("grammar", cg)] L f c')) ((L, .ns []) :: H) (lamEnv lamE qual [("grammar", cg)] L f c' :: l) := by
    apply evx_call1
    rfl
    rfl
    rfl
    exact ev_global rfl rfl rfl
    first | exact .inl ⟨_, rfl⟩ | exact .inr (.inl ⟨_, rfl⟩) | exact .inr (.inr (by kernel_rfl))
    exact ev_cell rfl rfl rfl (.tail _ hm)
    exact w_reducedX (n := n) hB hg h0 hu hst hz fo'
  exact wpAny_mono (this _ _ S') (fun _ _ q => q.elim) fun v s₁ z => wpAny_mono (leave_next z fo'.fr rfl) (fun _ s₂ z => ⟨_, rfl, z.weak .rfl (.skip .rfl)⟩) fun _ _ q => q
theorem ask_call {x : Str} {e : Expr} {F : Fz} {s : Shared} {Q : Value → Shared → Prop} {E : Value → Shared → Prop} {m : List (Str × D)} {le : Expr} {clos : List (Str × Addr)} (hE : eval e env = (do callWith e.pos (← eval (k0 e) env) [] (backTo e.pos (starEach [] env)) [])) (hn : k0 e = .Name x (k0 e).pos) (hb : locB env x = true) (hx : m.lookup x = some (.lam le qual clos))
    (S : St X ((env.locals, .ns m) :: H) F s) (h : ∀ F₁ s₁ f, Le F F₁ → St X ((env.locals, .ns m) :: H) F₁ s₁ → (D.lam le qual clos).is F₁ f → wpAny X.M A (call f [] []) Q E s₁) : wpAny X.M A (eval e env) Q E s := by
  rw [hE]
  exact wpAny_bind ((ev_local hn hb hx).mono S fun v F₁ s₁ l₁ S₁ r₁ => call_lam S₁ r₁ (h F₁ s₁ v l₁ S₁ r₁))
theorem w_ornone_ok (hA : Rm A (n + 8)) (hm : (cg, P.cell (some (dGram X g))) ∈ H)
    (hg : g.Ok) (h0 : 0 < g.rules.length) (hu : ubB g 0 = true) (hk : (redOf g).Ok) (hst : g.start < g.names.length) : Fn X A (.ref 274) [.lam lamE qual [("grammar", cg)]] H (dGram X (redOf g)) H := by
  refine fn_inC (fd := fdON) (c := 273) (ks := ["ask"]) (cn := []) (cs := fun n => []) (ds := [.lam lamE qual [("grammar", cg)]]) rfl rfl rfl rfl hA.lt rfl (fun _ => rfl) rfl rfl (fun _ => rfl) (fun _ => rfl) fun L => ?_
  show Ex X _ _ ((L, P.ns [("ask", .lam lamE qual [("grammar", cg)])]) :: H) _
  have hB : Rm (A.deeper (callEnvC fdON L 274)) (n + 7) := hA.deeper
  intro F s S
  refine wpAny_execs_cons (wpAny_Try_except ?_)
  refine wpAny_execs_cons (wpAny_Return_some ?_)
  refine ask_call rfl rfl rfl rfl S fun F₁ s₁ f l₁ S₁ hv => wpAny_call (codeAny_mono (lam_ok hB S₁ hv (.tail _ hm) hg h0 hu hk hst) fun r s' z => ?_)
  cases z with
  | mk v F' e l S' r => cases e; exact ⟨F', _, .ret (dGram X (redOf g)), l₁.trans l, S', ⟨v, rfl, r⟩, .inl rfl, .skip .rfl⟩
theorem w_ornone_x (hA : Rm A (n + 8)) (hm : (cg, P.cell (some (dGram X g))) ∈ H)
    (hg : g.Ok) (h0 : 0 < g.rules.length) (hu : ubB g 0 = false) (hst : g.start < g.names.length) (hz : (nm g g.start).length ≤ 100) (fo : FrOk A H l) : Fn X A (.ref 274) [.lam lamE qual [("grammar", cg)]] H .none H := by
  refine fn_inC (fd := fdON) (c := 273) (ks := ["ask"]) (cn := []) (cs := fun n => []) (ds := [.lam lamE qual [("grammar", cg)]]) rfl rfl rfl rfl hA.lt rfl (fun _ => rfl) rfl rfl (fun _ => rfl) (fun _ => rfl) fun L => ?_
  show Ex X _ _ ((L, P.ns [("ask", .lam lamE qual [("grammar", cg)])]) :: H) _
  have hB : Rm (A.deeper (callEnvC fdON L 274)) (n + 7) := hA.deeper
  have fo' : FrOk (A.deeper (callEnvC fdON L 274)) ((L, P.ns [("ask", .lam lamE qual [("grammar", cg)])]) :: H) (callEnvC fdON L 274 :: l) := fo.push rfl rfl (.head _) fun q hq => .tail _ hq
  refine ex_cons (fun F s S => wpAny_Try_except (wpAny_execs_cons (wpAny_Return_some (ask_call rfl rfl rfl rfl S fun F₁ s₁ f l₁ S₁ hv => wpAny_call (codeAny_mono (lam_x hB S₁ hv (.tail _ hm) hg h0 hu hst hz fo') fun r s' z => ?_)))))
  obtain ⟨v, rfl, z⟩ := z
  exact caught (z.weak l₁ .rfl) fo'.fr rfl (fun B F s Q E S q => glob_here rfl rfl rfl S q) fun e => ex_ret rfl (ev_none rfl) ⟨(fun q => by cases q), fun _ => ⟨.inl rfl, .skip .rfl⟩⟩
end
end Mine
namespace Mine
structure Setup (sg nm : List Str) (rs : List RowD) : Prop where
  nd : (allN sg nm).Nodup
  sym : ∀ r ∈ rs, r.l ∈ allN sg nm ∧ ∀ x ∈ r.r, x ∈ allN sg nm
  hd : ∃ s rest, s ∈ nm ∧ rs = accRow s :: rest
  en : ("$end" : Str) ∈ sg
/-- a symbol that has a word -/
inductive HW (sg : List Str) (rs : List RowD) : Str → Prop
  | sig {y : Str} (h : y ∈ sg) : HW sg rs y
  | row {r : RowD} (h : r ∈ rs) (a : ∀ x ∈ r.r, HW sg rs x) : HW sg rs r.l
theorem flt_le {α : Type} {p q : α → Bool} {l : List α} (h : ∀ x ∈ l, q x = true → p x = true) : (l.filter q).length ≤ (l.filter p).length := by
  rw [← List.countP_eq_length_filter, ← List.countP_eq_length_filter]
  exact List.countP_mono_left h
theorem flt_lt {α : Type} {p q : α → Bool} {l : List α} (h : ∀ x ∈ l, q x = true → p x = true) {a : α} (ha : a ∈ l) (hp : p a = true) (hq : q a = false) : (l.filter q).length < (l.filter p).length := by
  obtain ⟨l1, l2, rfl⟩ := List.append_of_mem ha
  have h1 := flt_le (l := l1) fun x hx => h x (List.mem_append_left _ hx)
  have h2 := flt_le (l := l2) fun x hx => h x (List.mem_append_right _ (.tail _ hx))
  rw [List.filter_append, List.filter_append, List.filter_cons, List.filter_cons, if_pos hp, hq, if_neg Bool.false_ne_true, List.length_append, List.length_append, List.length_cons]
  omega
-- _law_having reaches its end
noncomputable def nf (rs : List RowD) (xs : List Str) : Nat := (rs.filter fun r => !xs.contains r.l).length
def Clo (rs : List RowD) (xs : List Str) : Prop := ∀ r ∈ rs, allIn xs r = true → r.l ∈ xs
theorem hstep_clo {rs : List RowD} {xs : List Str} (h : Clo rs xs) : hstep rs xs = xs := by
  unfold hstep
  rw [List.filter_eq_nil_iff.mpr fun r hr hc => ?_, List.map_nil, List.append_nil]
  rw [Bool.and_eq_true, ncontains_iff] at hc
  exact hc.1 (h r hr hc.2)
theorem hstep_sub {rs : List RowD} {xs : List Str} {x : Str} (h : x ∈ xs) : x ∈ hstep rs xs := by unfold hstep; exact List.mem_append_left _ h
theorem hstep_nf {rs : List RowD} {xs : List Str} (h : ¬ Clo rs xs) : nf rs (hstep rs xs) < nf rs xs := by
  have : ∃ r ∈ rs, allIn xs r = true ∧ r.l ∉ xs := Classical.byContradiction fun hn => h fun r hr ha => Classical.byContradiction fun hl => hn ⟨r, hr, ha, hl⟩
  obtain ⟨r, hr, ha, hl⟩ := this
  have hin : r.l ∈ hstep rs xs := by
    unfold hstep
    exact List.mem_append_right _ (List.mem_map.mpr ⟨r, List.mem_filter.mpr ⟨hr, by rw [Bool.and_eq_true, ncontains_iff]; exact ⟨hl, ha⟩⟩, rfl⟩)
  unfold nf
  refine flt_lt (fun q _ hq => ?_) hr (ncontains_iff.mpr hl) (by rw [contains_iff.mpr hin]; rfl)
  rw [ncontains_iff] at hq ⊢
  exact fun hm => hq (hstep_sub hm)
theorem hav_clo {rs : List RowD} {xs : List Str} : ∀ n, Clo rs (hav rs n xs) ∨ nf rs (hav rs n xs) + n ≤ rs.length
  | 0 => .inr (by unfold nf; exact List.length_filter_le _ _)
  | n + 1 => by
    show Clo rs (hstep rs (hav rs n xs)) ∨ nf rs (hstep rs (hav rs n xs)) + (n + 1) ≤ rs.length
    by_cases h : Clo rs (hav rs n xs)
    · rw [hstep_clo h]; exact .inl h
    · rcases hav_clo (rs := rs) (xs := xs) n with h2 | h2
      · exact absurd h2 h
      · have := hstep_nf h; exact .inr (by omega)
theorem hav_end {rs : List RowD} {xs : List Str} : Clo rs (hav rs rs.length xs) := by
  rcases hav_clo (rs := rs) (xs := xs) rs.length with h | h
  · exact h
  · intro r hr _
    have h0 : nf rs (hav rs rs.length xs) = 0 := by omega
    unfold nf at h0
    have := List.filter_eq_nil_iff.mp (List.length_eq_zero_iff.mp h0) r hr
    rw [ncontains_iff] at this
    exact Classical.not_not.mp this
theorem hav_sub {rs : List RowD} {xs : List Str} {x : Str} (h : x ∈ xs) : ∀ n, x ∈ hav rs n xs
  | 0 => h
  | n + 1 => hstep_sub (hav_sub h n)
theorem hav_sound {sg : List Str} {rs : List RowD} : ∀ n, ∀ y ∈ hav rs n sg, HW sg rs y
  | 0, y, h => .sig h
  | n + 1, y, h => by
    have h' : y ∈ hstep rs (hav rs n sg) := h
    unfold hstep at h'
    rcases List.mem_append.mp h' with h' | h'
    · exact hav_sound n y h'
    · obtain ⟨r, hr, rfl⟩ := List.mem_map.mp h'
      obtain ⟨hr, hc⟩ := List.mem_filter.mp hr
      rw [Bool.and_eq_true, allIn_iff] at hc
      exact .row hr fun x hx => hav_sound n x (hc.2 x hx)
noncomputable def hvL (sg : List Str) (rs : List RowD) : List Str := hav rs rs.length sg
theorem hvL_iff {sg : List Str} {rs : List RowD} {y : Str} : y ∈ hvL sg rs ↔ HW sg rs y := by
  refine ⟨hav_sound _ y, fun h => ?_⟩
  induction h with
  | sig h => exact hav_sub h _
  | row hr a ih => exact hav_end _ hr (allIn_iff.mpr ih)
theorem hvL_all {sg : List Str} {rs : List RowD} {r : RowD} : allIn (hvL sg rs) r = true ↔ ∀ x ∈ r.r, HW sg rs x := by
  rw [allIn_iff]; exact ⟨fun h x hx => hvL_iff.mp (h x hx), fun h x hx => hvL_iff.mpr (h x hx)⟩
noncomputable def nB (sg : List Str) (rs : List RowD) (y : Str) : Bool := @decide (NReach rs (hvL sg rs) y) (Classical.propDecidable _)
theorem nB_iff {sg : List Str} {rs : List RowD} {y : Str} : nB sg rs y = true ↔ NReach rs (hvL sg rs) y := @decide_eq_true_iff _ (Classical.propDecidable _)
-- names and their numbers
section
variable {sg nm : List Str} {rs : List RowD} {lv : List (Int × Int × Str)} {ex : Option Int}
theorem idx_inj {l : List Str} {x y : Str} (hx : x ∈ l) (hy : y ∈ l) (h : l.idxOf x = l.idxOf y) : x = y := by
  have h1 := List.idxOf_lt_length_of_mem hx
  have h2 := List.idxOf_lt_length_of_mem hy
  rw [← List.getElem_idxOf h1, ← List.getElem_idxOf h2]
  exact getElem_congr rfl h _
theorem nm_idx {g : Gram} {y : Str} (h : y ∈ g.names) : Mine.nm g (g.names.idxOf y) = y := by
  have h1 := List.idxOf_lt_length_of_mem h
  have := nm_at (g := g) h1
  rw [List.getElem?_eq_getElem h1, List.getElem_idxOf] at this
  exact (Option.some.inj this).symm
theorem idx_nm {g : Gram} (nd : g.names.Nodup) {x : Nat} (h : x < g.names.length) : g.names.idxOf (Mine.nm g x) = x := by
  have e := nm_at (g := g) h
  have h2 := List.idxOf_lt_length_of_mem (nm_mem h)
  rw [List.getElem?_eq_getElem h] at e
  have e3 : g.names[g.names.idxOf (Mine.nm g x)] = g.names[x] := by rw [List.getElem_idxOf]; exact (Option.some.inj e).symm
  exact (List.getElem_inj nd).mp e3
theorem acc_mem : ("$accept" : Str) ∈ allN sg nm := by unfold allN; exact List.mem_append_left _ (List.mem_append_right _ (.head _))
theorem sg_mem {y : Str} (h : y ∈ sg) : y ∈ allN sg nm := by unfold allN; exact List.mem_append_left _ (List.mem_append_left _ h)
theorem nm_memA {y : Str} (h : y ∈ nm) : y ∈ allN sg nm := by unfold allN; exact List.mem_append_right _ h
theorem allN_cases {y : Str} (h : y ∈ allN sg nm) : y ∈ sg ∨ y = "$accept" ∨ y ∈ nm := by
  unfold allN at h
  rcases List.mem_append.mp h with h | h
  · rcases List.mem_append.mp h with h | h
    · exact .inl h
    · exact .inr (.inl (List.mem_singleton.mp h))
  · exact .inr (.inr h)
theorem idx_sg {y : Str} (h : y ∈ sg) : (allN sg nm).idxOf y < sg.length := by
  unfold allN
  rw [List.append_assoc, List.idxOf_append, if_pos h]
  exact List.idxOf_lt_length_of_mem h
theorem acc_not (nd : (allN sg nm).Nodup) : ("$accept" : Str) ∉ sg := fun h => by
  unfold allN at nd
  rw [List.nodup_append, List.nodup_append] at nd
  exact nd.1.2.2 _ h _ (.head _) rfl
theorem nm_not (nd : (allN sg nm).Nodup) {y : Str} (h : y ∈ nm) : y ∉ sg ∧ y ≠ "$accept" := by
  unfold allN at nd
  rw [List.nodup_append] at nd
  exact ⟨fun hs => nd.2.2 y (List.mem_append_left _ hs) y h rfl, fun he => nd.2.2 y (List.mem_append_right _ (he ▸ .head _)) y h rfl⟩
theorem idx_acc (nd : (allN sg nm).Nodup) : (allN sg nm).idxOf ("$accept" : Str) = sg.length := by
  unfold allN
  rw [List.append_assoc, List.idxOf_append, if_neg (acc_not nd)]
  show List.idxOf _ (("$accept" : Str) :: nm) + sg.length = _
  rw [List.idxOf_cons_self, Nat.zero_add]
theorem idx_sg_iff (nd : (allN sg nm).Nodup) {y : Str} (hy : y ∈ allN sg nm) : (allN sg nm).idxOf y < sg.length ↔ y ∈ sg := by
  refine ⟨fun h => ?_, idx_sg⟩
  have h1 := List.idxOf_lt_length_of_mem hy
  have e : (allN sg nm)[(allN sg nm).idxOf y] = y := List.getElem_idxOf h1
  have e2 : (allN sg nm)[(allN sg nm).idxOf y]? = sg[(allN sg nm).idxOf y]? := by
    generalize (allN sg nm).idxOf y = k at h
    unfold allN
    rw [List.append_assoc, List.getElem?_append_left h]
  rw [List.getElem?_eq_getElem h1, e, List.getElem?_eq_getElem h] at e2
  rw [Option.some.inj e2]
  exact List.getElem_mem _
theorem idx_nm_gt (nd : (allN sg nm).Nodup) {y : Str} (h : y ∈ nm) : sg.length < (allN sg nm).idxOf y := by
  have hy := nm_memA (sg := sg) h
  have h1 : ¬ (allN sg nm).idxOf y < sg.length := fun q => (nm_not nd h).1 ((idx_sg_iff nd hy).mp q)
  have h2 : (allN sg nm).idxOf y ≠ sg.length := fun q => (nm_not nd h).2 (idx_inj hy acc_mem (q.trans (idx_acc nd).symm))
  omega
theorem mkGram_names : (mkGram sg nm rs lv ex).names = allN sg nm := rfl
theorem mkRules_mem {all : List Str} {q : RuleD} (h : q ∈ mkRules all rs) : ∃ i r, rs[i]? = some r ∧ q = mkRule all i r := by
  obtain ⟨i, hi⟩ := List.mem_iff_getElem?.mp h
  obtain ⟨r, hr, e⟩ := mkRules_get hi
  exact ⟨i, r, hr, e⟩
theorem mkRules_of {all : List Str} {i : Nat} {r : RowD} (h : rs[i]? = some r) : mkRule all i r ∈ mkRules all rs := by
  unfold mkRules
  refine List.mem_map.mpr ⟨(r, i), ?_, rfl⟩
  rw [List.mem_zipIdx_iff_getElem?]
  exact h
variable (S : Setup sg nm rs)
include S
/-- productive is having a word -/
theorem hv_iff {y : Str} (hy : y ∈ allN sg nm) : hvB (mkGram sg nm rs lv ex) ((allN sg nm).idxOf y) = true ↔ HW sg rs y := by
  unfold hvB
  rw [prdB_iff]
  constructor
  · intro h
    generalize hx : (allN sg nm).idxOf y = x at h
    induction h generalizing y with
    | base hk =>
      subst hx
      exact .sig ((idx_sg_iff S.nd hy).mp (of_decide_eq_true hk))
    | rule hr a ih =>
      obtain ⟨i, r, hri, rfl⟩ := mkRules_mem hr
      have hm := List.mem_of_getElem? hri
      have e : y = r.l := idx_inj hy (S.sym r hm).1 hx
      rw [e]
      exact .row hm fun x hx2 => ih _ (List.mem_map_of_mem hx2) ((S.sym r hm).2 x hx2) rfl
  · intro h
    induction h with
    | sig h => exact .base (decide_eq_true (idx_sg h))
    | @row r hr a ih =>
      obtain ⟨i, hi⟩ := List.mem_iff_getElem?.mp hr
      refine .rule (r := mkRule (allN sg nm) i r) (mkRules_of hi) fun z hz => ?_
      obtain ⟨x, hx, rfl⟩ := List.mem_map.mp hz
      exact ih x hx ((S.sym r hr).2 x hx)
theorem hv_eq {y : Str} (hy : y ∈ allN sg nm) : hvB (mkGram sg nm rs lv ex) ((allN sg nm).idxOf y) = (hvL sg rs).contains y := by
  rw [Bool.eq_iff_iff, hv_iff S hy, contains_iff, hvL_iff]
theorem us_eq {i : Nat} {r : RowD} (hr : r ∈ rs) : usB (mkGram sg nm rs lv ex) (mkRule (allN sg nm) i r) = allIn (hvL sg rs) r := by
  rw [Bool.eq_iff_iff, hvL_all]
  unfold usB
  rw [List.isEmpty_iff, List.filter_eq_nil_iff]
  refine ⟨fun h x hx => ?_, fun h z hz => ?_⟩
  · have := h _ (List.mem_map_of_mem hx)
    rw [Bool.not_eq_true', Bool.not_eq_false] at this
    exact (hv_iff S ((S.sym r hr).2 x hx)).mp this
  · obtain ⟨x, hx, rfl⟩ := List.mem_map.mp hz
    rw [Bool.not_eq_true', Bool.not_eq_false]
    exact (hv_iff S ((S.sym r hr).2 x hx)).mpr (h x hx)
theorem ub_at {i : Nat} {r : RowD} (h : rs[i]? = some r) : ubB (mkGram sg nm rs lv ex) i = allIn (hvL sg rs) r := by
  have e : (mkGram sg nm rs lv ex).rules[i]? = some (mkRule (allN sg nm) i r) := by
    show (mkRules (allN sg nm) rs)[i]? = _
    unfold mkRules
    rw [List.getElem?_map, List.getElem?_zipIdx, h]
    show some (mkRule (allN sg nm) (0 + i) r) = _
    rw [Nat.zero_add]
  rw [ubB_at e, us_eq S (List.mem_of_getElem? h)]
theorem nd_iff {y : Str} (hy : y ∈ allN sg nm) : ndB (mkGram sg nm rs lv ex) ((allN sg nm).idxOf y) = true ↔ NReach rs (hvL sg rs) y := by
  unfold ndB
  rw [rchB_iff]
  constructor
  · intro h
    generalize hx : (allN sg nm).idxOf y = x at h
    induction h generalizing y with
    | acc =>
      have : y = "$accept" := idx_inj hy acc_mem (hx.trans (idx_acc S.nd).symm)
      rw [this]; exact .acc
    | @step r' z hr hu hl hm ih =>
      obtain ⟨i, r, hri, rfl⟩ := mkRules_mem hr
      have hm2 := List.mem_of_getElem? hri
      obtain ⟨x, hx2, e⟩ := List.mem_map.mp hm
      have e2 : y = x := idx_inj hy ((S.sym r hm2).2 x hx2) (hx.trans e.symm)
      rw [e2]
      have hu2 : allIn (hvL sg rs) r = true := by rw [← ub_at S hri]; exact hu
      exact .step hm2 (ih (S.sym r hm2).1 rfl) hu2 hx2
  · intro h
    induction h with
    | acc => rw [idx_acc S.nd]; exact .acc
    | @step r x hr hl ha hm ih =>
      obtain ⟨i, hi⟩ := List.mem_iff_getElem?.mp hr
      exact .step (r := mkRule (allN sg nm) i r) (mkRules_of hi) (by show ubB _ i = true; rw [ub_at S hi]; exact ha) (ih (S.sym r hr).1) (List.mem_map_of_mem hm)
theorem nd_eq {y : Str} (hy : y ∈ allN sg nm) : ndB (mkGram sg nm rs lv ex) ((allN sg nm).idxOf y) = nB sg rs y := by
  rw [Bool.eq_iff_iff, nd_iff S hy, nB_iff]
theorem nts_eq : nts (mkGram sg nm rs lv ex) = nm.map (allN sg nm).idxOf := by
  refine List.ext_getElem? fun j => ?_
  unfold nts
  show ((List.range ((allN sg nm).length - (sg.length + 1))).map fun j => sg.length + 1 + j)[j]? = _
  have hz : (allN sg nm).length - (sg.length + 1) = nm.length := by unfold allN; rw [List.length_append, List.length_append, List.length_singleton]; omega
  rw [hz, List.getElem?_map, List.getElem?_map]
  by_cases hj : j < nm.length
  · rw [List.getElem?_range hj, List.getElem?_eq_getElem hj]
    show some (sg.length + 1 + j) = some _
    congr 1
    have hl : sg.length + 1 + j < (allN sg nm).length := by omega
    have e : (allN sg nm)[sg.length + 1 + j] = nm[j] := by
      have : (allN sg nm)[sg.length + 1 + j]? = nm[j]? := by
        unfold allN
        rw [List.getElem?_append_right (by rw [List.length_append, List.length_singleton]; omega), List.length_append, List.length_singleton]
        congr 1; omega
      rw [List.getElem?_eq_getElem hl, List.getElem?_eq_getElem hj] at this
      exact Option.some.inj this
    have h2 := List.idxOf_lt_length_of_mem (nm_memA (sg := sg) (List.getElem_mem hj))
    refine ((List.getElem_inj S.nd).mp (?_ : (allN sg nm)[sg.length + 1 + j] = (allN sg nm)[(allN sg nm).idxOf nm[j]]))
    rw [e, List.getElem_idxOf]
  · rw [List.getElem?_eq_none (by rw [List.length_range]; omega), List.getElem?_eq_none (by omega)]; rfl
theorem wl_eq : wlOf (mkGram sg nm rs lv ex) (nts (mkGram sg nm rs lv ex)) = nm.filter fun y => !(hvL sg rs).contains y := by
  rw [nts_eq S]
  unfold wlOf
  rw [List.filter_map, List.map_map]
  rw [show (nm.filter ((fun x => !hvB (mkGram sg nm rs lv ex) x) ∘ (allN sg nm).idxOf)) = nm.filter fun y => !(hvL sg rs).contains y from List.filter_congr fun y hy => by
    show (!hvB _ _) = _
    rw [hv_eq S (nm_memA hy)]]
  exact (List.map_congr_left fun y hy => nm_idx (g := mkGram sg nm rs lv ex) (nm_memA (List.mem_filter.mp hy).1)).trans (List.map_id _)
theorem ur_eq : urOf (mkGram sg nm rs lv ex) (nts (mkGram sg nm rs lv ex)) = nm.filter fun y => (hvL sg rs).contains y && !nB sg rs y := by
  rw [nts_eq S]
  unfold urOf
  rw [List.filter_map, List.map_map]
  rw [show (nm.filter ((fun x => hvB (mkGram sg nm rs lv ex) x && !ndB (mkGram sg nm rs lv ex) x) ∘ (allN sg nm).idxOf)) = nm.filter fun y => (hvL sg rs).contains y && !nB sg rs y from List.filter_congr fun y hy => by
    show (hvB _ _ && !ndB _ _) = _
    rw [hv_eq S (nm_memA hy), nd_eq S (nm_memA hy)]]
  exact (List.map_congr_left fun y hy => nm_idx (g := mkGram sg nm rs lv ex) (nm_memA (List.mem_filter.mp hy).1)).trans (List.map_id _)
/-- a row that is kept -/
noncomputable def kp (sg : List Str) (rs : List RowD) (r : RowD) : Bool := nB sg rs r.l && allIn (hvL sg rs) r
theorem lt_eq : ltOf (mkGram sg nm rs lv ex) = (rs.zipIdx.filter fun q => !kp sg rs q.1).map fun q => q.2 := by
  unfold ltOf
  show ((mkRules (allN sg nm) rs).filter _).map _ = _
  unfold mkRules
  rw [List.filter_map, List.map_map]
  refine (congrArg (List.map _) (List.filter_congr fun q hq => ?_)).trans (List.map_congr_left fun q _ => rfl)
  have hq2 : q.1 ∈ rs := List.fst_mem_of_mem_zipIdx hq
  show (!usB _ (mkRule (allN sg nm) q.2 q.1) || !ndB _ ((allN sg nm).idxOf q.1.l)) = !kp sg rs q.1
  rw [us_eq S hq2, nd_eq S (S.sym _ hq2).1]
  unfold kp
  cases nB sg rs q.1.l <;> cases allIn (hvL sg rs) q.1 <;> rfl
end
end Mine
namespace Mine
theorem range_nm {g : Gram} {j : Nat} (h : j ≤ g.names.length) : (List.range j).map (nm g) = g.names.take j := by
  refine List.ext_getElem? fun i => ?_
  rw [List.getElem?_map, List.getElem?_take]
  by_cases hi : i < j
  · rw [List.getElem?_range hi, if_pos hi, nm_at (by omega)]; rfl
  · rw [List.getElem?_eq_none (by rw [List.length_range]; omega), if_neg hi]; rfl
theorem flt_nm {g : Gram} {k : Nat → Bool} {p : Str → Bool} (h : ∀ x, x < g.names.length → k x = p (nm g x)) {j : Nat} (hj : j ≤ g.names.length) : ((List.range j).filter k).map (nm g) = (g.names.take j).filter p := by
  rw [← range_nm hj, List.filter_map]
  refine congrArg _ (List.filter_congr fun x hx => ?_)
  have := List.mem_range.mp hx
  exact h x (by omega)
theorem flt_idx {l : List Str} {p : Str → Bool} {y : Str} (hy : y ∈ l) (hp : p y = true) : (l.filter p).idxOf y = ((l.take (l.idxOf y)).filter p).length := by
  induction l with
  | nil => exact (List.not_mem_nil hy).elim
  | cons x l ih =>
    rw [List.idxOf_cons]
    by_cases e : x = y
    · subst e
      rw [beq_self_eq_true, List.filter_cons, if_pos hp, List.idxOf_cons_self]; rfl
    · rw [beq_eq_false_iff_ne.mpr e]
      have hy' : y ∈ l := (List.mem_cons.mp hy).elim (fun q => absurd q.symm e) id
      show _ = (((x :: l).take (l.idxOf y + 1)).filter p).length
      rw [List.take_succ_cons, List.filter_cons, List.filter_cons]
      split
      · rw [List.idxOf_cons, beq_eq_false_iff_ne.mpr e, List.length_cons, ← ih hy']; rfl
      · exact ih hy'
section
variable {sg nm : List Str} {rs : List RowD} {lv : List (Int × Int × Str)} {ex : Option Int}
noncomputable def nm1 (sg nm : List Str) (rs : List RowD) : List Str := nm.filter (nB sg rs)
noncomputable def ks (sg : List Str) (rs : List RowD) : List RowD := rs.filter (kp sg rs)
noncomputable def pk (sg nm : List Str) (rs : List RowD) (y : Str) : Bool := decide ((allN sg nm).idxOf y ≤ sg.length) || nB sg rs y
theorem kp_iff {r : RowD} : kp sg rs r = true ↔ NReach rs (hvL sg rs) r.l ∧ allIn (hvL sg rs) r = true := by
  unfold kp; rw [Bool.and_eq_true, nB_iff]
theorem pk_of {y : Str} (h : NReach rs (hvL sg rs) y) : pk sg nm rs y = true := by unfold pk; rw [nB_iff.mpr h, Bool.or_true]
variable (S : Setup sg nm rs)
include S
theorem allN_flt : (allN sg nm).filter (pk sg nm rs) = allN sg (nm1 sg nm rs) := by
  have h1 : ∀ y ∈ sg, pk sg nm rs y = true := fun y hy => by unfold pk; rw [decide_eq_true (Nat.le_of_lt (idx_sg hy))]; rfl
  have h2 : pk sg nm rs "$accept" = true := by unfold pk; rw [decide_eq_true (Nat.le_of_eq (idx_acc S.nd))]; rfl
  have h3 : ∀ y ∈ nm, pk sg nm rs y = nB sg rs y := fun y hy => by
    unfold pk
    rw [decide_eq_false (Nat.not_le.mpr (idx_nm_gt S.nd hy))]; rfl
  show ((sg ++ [("$accept" : Str)]) ++ nm).filter (pk sg nm rs) = (sg ++ [("$accept" : Str)]) ++ nm.filter (nB sg rs)
  rw [List.filter_append, List.filter_append, List.filter_eq_self.mpr h1, List.filter_congr h3, List.filter_cons, if_pos h2, List.filter_nil]
theorem keep_eq {x : Nat} (h : x < (allN sg nm).length) : keepN (mkGram sg nm rs lv ex) (ndB (mkGram sg nm rs lv ex)) x = pk sg nm rs (Mine.nm (mkGram sg nm rs lv ex) x) := by
  have e := idx_nm (g := mkGram sg nm rs lv ex) S.nd h
  have hm := nm_mem (g := mkGram sg nm rs lv ex) h
  show (decide (x ≤ sg.length) || ndB _ x) = (decide ((allN sg nm).idxOf _ ≤ sg.length) || nB sg rs _)
  rw [← nd_eq (lv := lv) (ex := ex) S hm]
  rw [show (allN sg nm).idxOf (Mine.nm (mkGram sg nm rs lv ex) x) = x from e]
theorem kn_eq : kNames (mkGram sg nm rs lv ex) (ndB (mkGram sg nm rs lv ex)) (mkGram sg nm rs lv ex).names.length = allN sg (nm1 sg nm rs) := by
  unfold kNames
  rw [flt_nm (g := mkGram sg nm rs lv ex) (p := pk sg nm rs) (fun x hx => keep_eq S hx) (Nat.le_refl _), List.take_length]
  exact allN_flt S
theorem plc_eq {y : Str} (hy : y ∈ allN sg nm) (hp : pk sg nm rs y = true) : plc (mkGram sg nm rs lv ex) (ndB (mkGram sg nm rs lv ex)) ((allN sg nm).idxOf y) = (allN sg (nm1 sg nm rs)).idxOf y := by
  rw [← allN_flt S, flt_idx hy hp]
  have := flt_nm (g := mkGram sg nm rs lv ex) (p := pk sg nm rs) (fun x hx => keep_eq S hx) (Nat.le_of_lt (List.idxOf_lt_length_of_mem hy))
  rw [← mkGram_names (sg := sg) (nm := nm) (rs := rs) (lv := lv) (ex := ex)]
  show ((List.range _).filter _).length = _
  rw [← List.length_map (f := Mine.nm (mkGram sg nm rs lv ex))]
  exact congrArg List.length this
/-- the rows of symbols that are kept -/
theorem kept_syms {r : RowD} (hr : r ∈ rs) (hk : kp sg rs r = true) : NReach rs (hvL sg rs) r.l ∧ ∀ x ∈ r.r, NReach rs (hvL sg rs) x := by
  obtain ⟨h1, h2⟩ := kp_iff.mp hk
  exact ⟨h1, fun x hx => .step hr h1 h2 hx⟩
variable {s : Str} {rest : List RowD}
theorem kp0 (e : rs = accRow s :: rest) (hw : HW sg rs s) : kp sg rs (accRow s) = true := by
  refine kp_iff.mpr ⟨.acc, hvL_all.mpr fun x hx => ?_⟩
  rcases List.mem_cons.mp hx with hx | hx
  · rw [hx]; exact hw
  · rw [List.mem_singleton] at hx; rw [hx]; exact .sig S.en
theorem rb_eq {i : Nat} {r : RowD} (h : rs[i]? = some r) : rbOf (mkGram sg nm rs lv ex) (fun r => usB (mkGram sg nm rs lv ex) r && ndB (mkGram sg nm rs lv ex) r.left) i = kp sg rs r := by
  have e : (mkGram sg nm rs lv ex).rules[i]? = some (mkRule (allN sg nm) i r) := by
    show (mkRules (allN sg nm) rs)[i]? = _
    unfold mkRules
    rw [List.getElem?_map, List.getElem?_zipIdx, h]
    show some (mkRule (allN sg nm) (0 + i) r) = _
    rw [Nat.zero_add]
  have hm := List.mem_of_getElem? h
  unfold rbOf
  rw [e]
  show (usB _ (mkRule (allN sg nm) i r) && ndB _ ((allN sg nm).idxOf r.l)) = _
  rw [us_eq S hm, nd_eq S (S.sym r hm).1]
  unfold kp
  exact Bool.and_comm _ _
theorem rules_eq (e : rs = accRow s :: rest) (hw : HW sg rs s) : mkKs (mkGram sg nm rs lv ex) (ndB (mkGram sg nm rs lv ex)) (rbOf (mkGram sg nm rs lv ex) fun r => usB (mkGram sg nm rs lv ex) r && ndB (mkGram sg nm rs lv ex) r.left) (mkGram sg nm rs lv ex).rules = mkRules (allN sg (nm1 sg nm rs)) (ks sg rs) := by
  have hks : ks sg rs = (rs.zipIdx.filter fun q => kp sg rs q.1).map fun q => q.1 := by
    unfold ks
    have : rs.filter (kp sg rs) = (rs.zipIdx.map fun q => q.1).filter (kp sg rs) := by rw [List.zipIdx_map_fst]
    rw [this, List.filter_map]; rfl
  have hflt : (mkGram sg nm rs lv ex).rules.filter (keepR (rbOf (mkGram sg nm rs lv ex) fun r => usB (mkGram sg nm rs lv ex) r && ndB (mkGram sg nm rs lv ex) r.left)) = (rs.zipIdx.filter fun q => kp sg rs q.1).map fun q => mkRule (allN sg nm) q.2 q.1 := by
    show (mkRules (allN sg nm) rs).filter _ = _
    unfold mkRules
    rw [List.filter_map]
    refine congrArg _ (List.filter_congr fun q hq => ?_)
    have hq2 := List.mem_zipIdx_iff_getElem?.mp hq
    show (q.2 == 0 || rbOf _ _ q.2) = kp sg rs q.1
    rw [rb_eq S hq2]
    by_cases h0 : q.2 = 0
    · rw [h0] at hq2
      rw [e] at hq2
      have : accRow s = q.1 := Option.some.inj hq2
      rw [← this, kp0 S e hw, Bool.or_true]
    · rw [beq_eq_false_iff_ne.mpr h0, Bool.false_or]
  unfold mkKs
  rw [hflt]
  unfold mkRules
  rw [hks, List.zipIdx_map, List.zipIdx_map, List.map_map, List.map_map]
  refine List.map_congr_left fun q hq => ?_
  have hq1 := List.mem_filter.mp (List.fst_mem_of_mem_zipIdx hq)
  have hq2 : q.1.1 ∈ rs := List.fst_mem_of_mem_zipIdx hq1.1
  have hk := kept_syms S hq2 hq1.2
  have hs := S.sym _ hq2
  show mkK _ _ q.2 (mkRule (allN sg nm) q.1.2 q.1.1) = mkRule (allN sg (nm1 sg nm rs)) q.2 q.1.1
  unfold mkK mkRule
  dsimp only
  rw [plc_eq S hs.1 (pk_of hk.1), List.map_map]
  congr 1
  exact List.map_congr_left fun x hx => plc_eq S (hs.2 x hx) (pk_of (hk.2 x hx))
theorem start_reach (e : rs = accRow s :: rest) (hw : HW sg rs s) : NReach rs (hvL sg rs) s := .step (r := accRow s) (e ▸ .head _) .acc (kp_iff.mp (kp0 S e hw)).2 (.head _)
theorem ks_cons (e : rs = accRow s :: rest) (hw : HW sg rs s) : ks sg rs = accRow s :: rest.filter (kp sg rs) := by
  have := kp0 S e hw
  have h : ks sg rs = (accRow s :: rest).filter (kp sg rs) := by unfold ks; rw [← e]
  rw [h, List.filter_cons, if_pos this]
theorem red_eq (e : rs = accRow s :: rest) (hn : s ∈ nm) (hw : HW sg rs s) : redOf (mkGram sg nm rs lv ex) = mkGram sg (nm1 sg nm rs) (ks sg rs) lv ex := by
  unfold redOf restr
  rw [kn_eq S, rules_eq S e hw]
  show Gram.mk _ sg.length _ lv ex (plc _ _ ((allN sg nm).idxOf (startOf rs))) = Gram.mk _ _ _ _ _ ((allN sg (nm1 sg nm rs)).idxOf (startOf (ks sg rs)))
  have e1 : startOf rs = s := by rw [e]; rfl
  have e2 : startOf (ks sg rs) = s := by rw [ks_cons S e hw]; rfl
  rw [e1, e2, plc_eq S (nm_memA hn) (pk_of (start_reach S e hw))]
theorem memA1 {y : Str} (hy : y ∈ allN sg nm) (h : NReach rs (hvL sg rs) y) : y ∈ allN sg (nm1 sg nm rs) := by
  rw [← allN_flt S]; exact List.mem_filter.mpr ⟨hy, pk_of h⟩
theorem setup1 (e : rs = accRow s :: rest) (hn : s ∈ nm) (hw : HW sg rs s) : Setup sg (nm1 sg nm rs) (ks sg rs) where
  nd := by rw [← allN_flt S]; exact List.Nodup.sublist List.filter_sublist S.nd
  sym := fun r hr => by
    obtain ⟨hr, hk⟩ := List.mem_filter.mp hr
    have h := kept_syms S hr hk
    exact ⟨memA1 S (S.sym r hr).1 h.1, fun x hx => memA1 S ((S.sym r hr).2 x hx) (h.2 x hx)⟩
  hd := ⟨s, _, List.mem_filter.mpr ⟨hn, nB_iff.mpr (start_reach S e hw)⟩, ks_cons S e hw⟩
  en := S.en
theorem hw1 {y : Str} (h : HW sg rs y) (hr : NReach rs (hvL sg rs) y) : HW sg (ks sg rs) y := by
  induction h with
  | sig h => exact .sig h
  | @row r hm a ih =>
    have ha := hvL_all.mpr a
    exact .row (List.mem_filter.mpr ⟨hm, kp_iff.mpr ⟨hr, ha⟩⟩) fun x hx => ih x hx (.step hm hr ha hx)
omit S in
/-- what is reached has a word, but for the start of all -/
theorem reach_hw {y : Str} (h : NReach rs (hvL sg rs) y) : y = "$accept" ∨ HW sg rs y := by
  cases h with
  | acc => exact .inl rfl
  | step h l a m => exact .inr (hvL_all.mp a _ m)
theorem in1 {r : RowD} (hr : r ∈ rs) (hk : kp sg rs r = true) : allIn (hvL sg (ks sg rs)) r = true := by
  have h := kept_syms S hr hk
  have ha := (kp_iff.mp hk).2
  exact hvL_all.mpr fun x hx => hw1 S (hvL_all.mp ha x hx) (h.2 x hx)
theorem reach1 {y : Str} (h : NReach rs (hvL sg rs) y) : NReach (ks sg rs) (hvL sg (ks sg rs)) y := by
  induction h with
  | acc => exact .acc
  | @step r x hr l a m ih =>
    have hk : kp sg rs r = true := kp_iff.mpr ⟨l, a⟩
    exact .step (List.mem_filter.mpr ⟨hr, hk⟩) ih (in1 S hr hk) m
theorem nB1 {y : Str} (h : y ∈ nm1 sg nm rs) : nB sg (ks sg rs) y = true ∧ (hvL sg (ks sg rs)).contains y = true := by
  obtain ⟨hy, hb⟩ := List.mem_filter.mp h
  have hr := nB_iff.mp hb
  refine ⟨nB_iff.mpr (reach1 S hr), contains_iff.mpr (hvL_iff.mpr (hw1 S ?_ hr))⟩
  exact (reach_hw hr).elim (fun q => absurd q (nm_not S.nd hy).2) id
theorem kp1 {r : RowD} (h : r ∈ ks sg rs) : kp sg (ks sg rs) r = true := by
  obtain ⟨hr, hk⟩ := List.mem_filter.mp h
  exact kp_iff.mpr ⟨reach1 S (kept_syms S hr hk).1, in1 S hr hk⟩
theorem nm11 : nm1 sg (nm1 sg nm rs) (ks sg rs) = nm1 sg nm rs := List.filter_eq_self.mpr fun y hy => (nB1 S hy).1
theorem ks1 : ks sg (ks sg rs) = ks sg rs := List.filter_eq_self.mpr fun r hr => kp1 S hr
theorem red_again (e : rs = accRow s :: rest) (hn : s ∈ nm) (hw : HW sg rs s) : redOf (mkGram sg (nm1 sg nm rs) (ks sg rs) lv ex) = mkGram sg (nm1 sg nm rs) (ks sg rs) lv ex := by
  have S1 := setup1 S e hn hw
  rw [red_eq S1 (ks_cons S e hw) (List.mem_filter.mpr ⟨hn, nB_iff.mpr (start_reach S e hw)⟩) (hw1 S hw (start_reach S e hw)), nm11 S, ks1 S]
theorem wl1 (e : rs = accRow s :: rest) (hn : s ∈ nm) (hw : HW sg rs s) : wlOf (mkGram sg (nm1 sg nm rs) (ks sg rs) lv ex) (nts (mkGram sg (nm1 sg nm rs) (ks sg rs) lv ex)) = [] := by
  rw [wl_eq (setup1 S e hn hw), List.filter_eq_nil_iff]
  intro y hy; rw [(nB1 S hy).2]; decide
theorem ur1 (e : rs = accRow s :: rest) (hn : s ∈ nm) (hw : HW sg rs s) : urOf (mkGram sg (nm1 sg nm rs) (ks sg rs) lv ex) (nts (mkGram sg (nm1 sg nm rs) (ks sg rs) lv ex)) = [] := by
  rw [ur_eq (setup1 S e hn hw), List.filter_eq_nil_iff]
  intro y hy; rw [(nB1 S hy).1, (nB1 S hy).2]; decide
theorem lt1 (e : rs = accRow s :: rest) (hn : s ∈ nm) (hw : HW sg rs s) : ltOf (mkGram sg (nm1 sg nm rs) (ks sg rs) lv ex) = [] := by
  rw [lt_eq (setup1 S e hn hw), List.map_eq_nil_iff, List.filter_eq_nil_iff]
  intro q hq; rw [kp1 S (List.fst_mem_of_mem_zipIdx hq)]; decide
end
end Mine
namespace Mine
mutual
theorem eqv_refl : ∀ p : PyData, p.canLay0 = true → PyData.eqv p p = true
  | .none, _ => by rw [PyData.eqv.eq_def]
  | .bool b, _ => by rw [PyData.eqv.eq_def]; exact beq_self_eq_true b
  | .int i, _ => by rw [PyData.eqv.eq_def]; exact beq_self_eq_true i
  | .str x, _ => by rw [PyData.eqv.eq_def]; exact beq_self_eq_true x
  | .list xs, h => by rw [PyData.eqv.eq_def]; exact eqvAll_refl xs h
  | .tuple xs, h => by rw [PyData.eqv.eq_def]; exact eqvAll_refl xs h
  | .dict _, h => by cases h
theorem eqvAll_refl : ∀ xs : List PyData, PyData.canLayAll0 xs = true → PyData.eqvAll xs xs = true
  | [], _ => by rw [PyData.eqvAll.eq_def]
  | x :: xs, h => by
    have h' : (PyData.canLay0 x && PyData.canLayAll0 xs) = true := h
    rw [Bool.and_eq_true] at h'
    rw [PyData.eqvAll.eq_def]
    show (PyData.eqv x x && PyData.eqvAll xs xs) = true
    rw [eqv_refl x h'.1, eqvAll_refl xs h'.2]; rfl
end
theorem depth_map {α : Type} {f : α → PyData} {n : Nat} {xs : List α} (h : ∀ x ∈ xs, (f x).depth ≤ n) : PyData.depthAll (xs.map f) ≤ n := by
  induction xs with
  | nil => exact Nat.zero_le _
  | cons x xs ih => exact Nat.max_le.mpr ⟨h x (.head _), ih fun y hy => h y (.tail _ hy)⟩
theorem depth_seq {xs : List PyData} {n : Nat} (h : PyData.depthAll xs ≤ n) : (PyData.list xs).depth ≤ n + 1 ∧ (PyData.tuple xs).depth ≤ n + 1 := ⟨Nat.succ_le_succ h, Nat.succ_le_succ h⟩
noncomputable def pOS : Option Str → PyData
  | none => .none
  | some x => .str x
noncomputable def pOI : Option Int → PyData
  | none => .none
  | some x => .int x
theorem rd_os {o : Option Str} : Rd (dOS o) (pOS o) := by cases o with | none => exact rd_none | some x => exact rd_str
theorem rd_oi {o : Option Int} : Rd (dOI o) (pOI o) := by cases o with | none => exact rd_none | some x => exact rd_int
theorem pOS_depth {o : Option Str} : (pOS o).depth = 0 := by cases o <;> rfl
theorem pOI_depth {o : Option Int} : (pOI o).depth = 0 := by cases o <;> rfl
theorem pOS_lay {o : Option Str} (h : OsOk o) : (pOS o).canLay0 = true := by cases o with | none => rfl | some x => exact h x rfl
theorem pOI_lay {o : Option Int} : (pOI o).canLay0 = true := by cases o <;> rfl
-- rows
noncomputable def pRow (r : RowD) : PyData := .tuple [.str r.l, .tuple (r.r.map .str), .int r.lev, pOS r.act, .int r.line, .int r.before]
theorem rd_row {r : RowD} : Rd (dRow r) (pRow r) := rd_tup (.cons rd_str (.cons (rd_tup rdl_strs) (.cons rd_int (.cons rd_os (.cons rd_int (.cons rd_int .nil))))))
structure RowStr (q : RowD) : Prop where
  l : PyData.strOk q.l = true
  r : SOk q.r
  a : OsOk q.act
theorem pRow_lay {r : RowD} (h : RowStr r) : (pRow r).canLay0 = true := by
  show (PyData.strOk r.l && (PyData.canLayAll0 _ && (true && (PyData.canLay0 (pOS r.act) && (true && (true && true)))))) = true
  rw [h.l, h.r.lay, pOS_lay h.a]; rfl
theorem pRow_depth {r : RowD} : (pRow r).depth ≤ 2 := by
  show max 0 (max (PyData.depthAll (r.r.map .str) + 1) (max 0 (max (PyData.depth (pOS r.act)) (max 0 (max 0 0))))) + 1 ≤ 2
  rw [depth_strs, pOS_depth]; decide
theorem eqv_os {a b : Option Str} : PyData.eqv (pOS a) (pOS b) = true ↔ a = b := by
  cases a <;> cases b <;> simp [pOS, PyData.eqv]
theorem eqv_row {a b : RowD} : PyData.eqv (pRow a) (pRow b) = true ↔ a = b := by
  have e : PyData.eqv (pRow a) (pRow b) = (a.l == b.l && (PyData.eqvAll (a.r.map .str) (b.r.map .str) && (a.lev == b.lev && (PyData.eqv (pOS a.act) (pOS b.act) && (a.line == b.line && (a.before == b.before && true)))))) := by
    unfold pRow
    simp only [PyData.eqv, PyData.eqvAll]
  rw [e, eqvAll_strs]
  simp only [Bool.and_eq_true, beq_iff_eq, Bool.and_true, eqv_os]
  constructor
  · rintro ⟨h1, h2, h3, h4, h5, h6⟩
    obtain ⟨l, r, lev, act, line, before⟩ := a
    obtain ⟨l', r', lev', act', line', before'⟩ := b
    dsimp only at h1 h2 h3 h4 h5 h6
    subst h1 h2 h3 h4 h5 h6; rfl
  · rintro rfl
    exact ⟨rfl, rfl, rfl, rfl, rfl, rfl⟩
theorem row_any {rs : List RowD} {r : RowD} : ((rs.map pRow).any fun y => PyData.eqv y (pRow r)) = true ↔ r ∈ rs := by
  rw [List.any_eq_true]
  constructor
  · rintro ⟨y, hy, h⟩
    obtain ⟨q, hq, rfl⟩ := List.mem_map.mp hy
    exact eqv_row.mp h ▸ hq
  · exact fun h => ⟨_, List.mem_map_of_mem h, eqv_row.mpr rfl⟩
-- what is told
noncomputable def pTold (r : RuleD) : PyData := .tuple [.int r.left, .tuple (r.right.map fun x : Nat => .int x), .int r.lev, pOS r.act, .int r.before]
noncomputable def pLv (q : Int × Int × Str) : PyData := .tuple [.int q.1, .tuple [.int q.2.1, .str q.2.2]]
noncomputable def pToldG (g : Gram) : PyData := .tuple [.tuple (g.names.map .str), .int g.tc, .tuple (g.rules.map pTold), .tuple (g.lv.map pLv), pOI g.expect, .int g.start]
noncomputable def pLine (r : RuleD) : PyData := .tuple [.int r.num, .int r.line]
noncomputable def pAft (g : Gram) (i : Nat) : PyData := if i - off_at g i < (right_at g i).length then .int ((right_at g i).getD (i - off_at g i) 0 : Nat) else .int (-1)
noncomputable def pPlace (g : Gram) (i : Nat) : PyData := .tuple [.int (own_at g i), .int (i - off_at g i), pAft g i]
noncomputable def pToldAll (g : Gram) : PyData := .tuple [pToldG g, .list (g.rules.map pLine), .list ((List.range g.owners.length).map (pPlace g)), .list ((List.range g.names.length).map fun x => .list ((g.byLeft x).map fun x : Nat => .int x))]
theorem rd_aft {g : Gram} {i : Nat} : Rd (dAft g i) (pAft g i) := by unfold dAft pAft; split <;> exact rd_int
theorem rdl_nats {xs : List Nat} : RdL (xs.map dN) (xs.map fun x : Nat => .int x) := RdL.map fun x _ => rd_int
theorem rd_toldAll {g : Gram} {X : Cx} : Rd (dToldAll g X) (pToldAll g) :=
  rd_tup (.cons (rd_tup (.cons (rd_tup rdl_strs) (.cons rd_int (.cons (rd_tup (RdL.map fun r _ => rd_tup (.cons rd_int (.cons (rd_tup rdl_nats) (.cons rd_int (.cons rd_os (.cons rd_int .nil))))))) (.cons (rd_tup (RdL.map fun q _ => rd_tup (.cons rd_int (.cons (rd_tup (.cons rd_int (.cons rd_str .nil))) .nil)))) (.cons rd_oi (.cons rd_int .nil)))))))
    (.cons (rd_lst (RdL.map fun r _ => rd_tup (.cons rd_int (.cons rd_int .nil)))) (.cons (rd_lst (RdL.map fun i _ => rd_tup (.cons rd_int (.cons rd_int (.cons rd_aft .nil))))) (.cons (rd_lst (RdL.map fun x _ => rd_lst rdl_nats)) .nil))))
structure GStr (g : Gram) : Prop where
  n : SOk g.names
  a : ∀ r ∈ g.rules, OsOk r.act
  l : ∀ q ∈ g.lv, PyData.strOk q.2.2 = true
theorem lay_nats {xs : List Nat} : PyData.canLayAll0 (xs.map fun x : Nat => PyData.int x) = true := lays_map fun _ _ => rfl
theorem pAft_lay {g : Gram} {i : Nat} : (pAft g i).canLay0 = true := by unfold pAft; split <;> rfl
theorem pAft_depth {g : Gram} {i : Nat} : (pAft g i).depth = 0 := by unfold pAft; split <;> rfl
theorem told_lay {g : Gram} (h : GStr g) : (pToldAll g).canLay0 = true := by
  have h1 : (pToldG g).canLay0 = true := by
    show (PyData.canLayAll0 _ && (true && (PyData.canLayAll0 _ && (PyData.canLayAll0 _ && (PyData.canLay0 (pOI g.expect) && (true && true)))))) = true
    rw [h.n.lay, pOI_lay, lays_map (f := pTold) (xs := g.rules) fun r hr => by
      show (true && (PyData.canLayAll0 _ && (true && (PyData.canLay0 (pOS r.act) && (true && true))))) = true
      rw [lay_nats, pOS_lay (h.a r hr)]; rfl, lays_map (f := pLv) (xs := g.lv) fun q hq => by
      show (true && ((true && (PyData.strOk q.2.2 && true)) && true)) = true
      rw [h.l q hq]; rfl]; rfl
  show (PyData.canLay0 (pToldG g) && (PyData.canLayAll0 _ && (PyData.canLayAll0 _ && (PyData.canLayAll0 _ && true)))) = true
  rw [h1, lays_map (f := pLine) fun _ _ => rfl, lays_map (f := pPlace g) fun i _ => by
    show (true && (true && (PyData.canLay0 (pAft g i) && true))) = true
    rw [pAft_lay]; rfl, lays_map (f := fun x => PyData.list ((g.byLeft x).map fun x : Nat => .int x)) fun x _ => lay_nats]; rfl
theorem told_depth {g : Gram} : (pToldAll g).depth ≤ 99 := by
  have h1 : (pToldG g).depth ≤ 9 := by
    show max (PyData.depthAll (g.names.map .str) + 1) (max 0 (max (PyData.depthAll (g.rules.map pTold) + 1) (max (PyData.depthAll (g.lv.map pLv) + 1) (max (PyData.depth (pOI g.expect)) (max 0 0))))) + 1 ≤ 9
    have a : PyData.depthAll (g.rules.map pTold) ≤ 5 := depth_map fun r _ => by
      show max 0 (max (PyData.depthAll (r.right.map fun x : Nat => PyData.int x) + 1) (max 0 (max (PyData.depth (pOS r.act)) (max 0 0)))) + 1 ≤ 5
      rw [depth_ints, pOS_depth]; decide
    have b : PyData.depthAll (g.lv.map pLv) ≤ 5 := depth_map fun q _ => by show max 0 (max (max 0 (max 0 0) + 1) 0) + 1 ≤ 5; decide
    rw [depth_strs, pOI_depth]; omega
  show max (PyData.depth (pToldG g)) (max (PyData.depthAll (g.rules.map pLine) + 1) (max (PyData.depthAll ((List.range g.owners.length).map (pPlace g)) + 1) (max (PyData.depthAll ((List.range g.names.length).map fun x => PyData.list ((g.byLeft x).map fun x : Nat => .int x)) + 1) 0))) + 1 ≤ 99
  have a : PyData.depthAll (g.rules.map pLine) ≤ 5 := depth_map fun r _ => by show max 0 (max 0 0) + 1 ≤ 5; decide
  have b : PyData.depthAll ((List.range g.owners.length).map (pPlace g)) ≤ 5 := depth_map fun i _ => by
    show max 0 (max 0 (max (PyData.depth (pAft g i)) 0)) + 1 ≤ 5
    rw [pAft_depth]; decide
  have c : PyData.depthAll ((List.range g.names.length).map fun x => PyData.list ((g.byLeft x).map fun x : Nat => .int x)) ≤ 5 := depth_map fun x _ => by
    show PyData.depthAll _ + 1 ≤ 5
    rw [depth_ints]; decide
  omega
section
variable {X : Cx} {A : Around} {env : Env} {H H' H₁ H₂ K Z : Hs} {R : Out → Hs → Prop} {e : Expr} {ss : List Stmt} {n : Nat} {g : Gram}
theorem op_neTold (hA : Rm A n) (h : GStr g) : Op2 X A (compareOp .NotEq) (dToldAll g X) (dToldAll g X) H (.bool false) H := by
  have := op_ne (X := X) (A := A) (H := H) (rd_toldAll (g := g) (X := X)).s (rd_toldAll (g := g) (X := X)).s (told_lay h) (told_lay h) (hA.fit (Nat.le_trans (Nat.min_le_left _ _) told_depth))
  rwa [eqv_refl _ (told_lay h)] at this
theorem op_eqTold (hA : Rm A n) (h : GStr g) : Op2 X A (compareOp .Eq) (dToldAll g X) (dToldAll g X) H (.bool true) H := by
  have := op_eq (X := X) (A := A) (H := H) (rd_toldAll (g := g) (X := X)).s (rd_toldAll (g := g) (X := X)).s (told_lay h) (told_lay h) (hA.fit (Nat.le_trans (Nat.min_le_left _ _) told_depth))
  rwa [eqv_refl _ (told_lay h)] at this
theorem op_notinR {rs : List RowD} {r : RowD} (hA : Rm A n) (h : ∀ r ∈ rs, RowStr r) (hr : RowStr r) {b : Bool} (hb : b = true ↔ r ∉ rs) : Op2 X A (compareOp .NotIn) (dRow r) (.lst (rs.map dRow)) H (.bool b) H := by
  have := op_notin (X := X) (A := A) (H := H) (rd_row (r := r)).s (rd_lst (RdL.map (f := dRow) (g := pRow) (xs := rs) fun r _ => rd_row)).s (pRow_lay hr) (lays_map fun r hq => pRow_lay (h r hq)) (hA.fit1 (Nat.le_trans (Nat.min_le_right _ _) (Nat.le_trans pRow_depth (by decide))))
  rwa [show (!(rs.map pRow).any fun y => PyData.eqv y (pRow r)) = b from by rw [Bool.eq_iff_iff, hb, Bool.not_eq_true', ← Bool.not_eq_true, row_any]] at this
theorem op_neB {a b : Bool} (hA : Rm A n) : Op2 X A (compareOp .NotEq) (.bool a) (.bool b) H (.bool (!(a == b))) H := by
  have := op_ne (X := X) (A := A) (H := H) (rd_bool (b := a)).s (rd_bool (b := b)).s rfl rfl (hA.fit (Nat.le_trans (Nat.min_le_left _ _) (Nat.zero_le _)))
  rwa [show PyData.eqv (.bool a) (.bool b) = (a == b) from by rw [PyData.eqv.eq_def]] at this
theorem op_isObj {C : Addr} {fs : List (Str × D)} : Op2 X A (compareOp .Is) (.obj C fs) .none H (.bool false) H := fun F s v₁ v₂ S ⟨a, e, _⟩ e' => by
  cases (e' : v₂ = .none); subst e; exact PySem.is_none ⟨F, .rfl, S, rfl⟩
theorem CallQ.perm {f : Value} {ds : List D} {Q Q' : D → Hs → Prop} (p : List.Perm K H) (h : CallQ X A f ds H Q) (k : ∀ d K', Q d K' → ∃ K'', List.Perm K' K'' ∧ Q' d K'') : CallQ X A f ds K Q' := fun F s vs S r =>
  wpAny_mono (h F s vs (S.perm p) r) (fun v s' z => by
    cases z with
    | mk F' d H' l S r q => obtain ⟨K', p', q'⟩ := k d H' q; exact ⟨F', d, K', l, S.perm p', r, q'⟩) fun _ _ e => e
theorem ev_and3 {a b c : Bool} (he : e = .BoolOp .And [k0 e, k1 e, k2 e] e.pos) (h1 : Ev X A (eval (k0 e) env) H (.bool a) H) (h2 : Ev X A (eval (k1 e) env) H (.bool b) H) (h3 : Ev X A (eval (k2 e) env) H (.bool c) H) : Ev X A (eval e env) H (.bool (a && (b && c))) H := .at he fun F s S =>
  BoolOp_and (h1.mono S fun v F₁ s₁ l₁ S₁ e => by
    rw [show v = Value.bool a from e]
    refine wpAny_truthy_bool ?_
    cases a with
    | false => exact ⟨F₁, l₁, S₁, rfl⟩
    | true => exact BoolOp_and (h2.mono S₁ fun v F₂ s₂ l₂ S₂ e₂ => by
        rw [show v = Value.bool b from e₂]
        refine wpAny_truthy_bool ?_
        cases b with
        | false => exact ⟨F₂, l₁.trans l₂, S₂, rfl⟩
        | true => exact h3.mono S₂ fun v F₃ s₃ l₃ S₃ e₃ => ⟨F₃, (l₁.trans l₂).trans l₃, S₃, e₃⟩))
end
end Mine
namespace Mine
noncomputable def sgAll : List Str := ["$end", "error", "$undefined", "a", "b", "c"]
noncomputable def nmAll : List Str := ["S", "T", "U", "V", "W"]
theorem sgAll_ok : SOk sgAll := by unfold SOk; decide +kernel
theorem nmAll_ok : SOk nmAll := by unfold SOk; decide +kernel
theorem nmAll_len : ∀ x ∈ nmAll, x.length ≤ 100 := by decide +kernel
theorem all_nd : (allN sgAll nmAll).Nodup := by decide +kernel
theorem acc_ok : PyData.strOk "$accept" = true := by decide +kernel
/-- all that is known of a grammar of the law -/
structure AllOk (sg nm : List Str) (rs : List RowD) (lv : List (Int × Int × Str)) : Prop where
  S : Setup sg nm rs
  row : ∀ r ∈ rs, RowStr r
  z : rs.length ≤ 9
  rz : ∀ r ∈ rs, r.r.length ≤ 3
  ss : SOk sg
  sn : SOk nm
  sl : ∀ x ∈ nm, x.length ≤ 100
  sz : sg.length ≤ 16
  nz : nm.length ≤ 16
  lvk : (lv.map lvK).Pairwise (· < ·)
  vz : lv.length ≤ 8
  ls : ∀ q ∈ lv, PyData.strOk q.2.2 = true
section
variable {sg nm : List Str} {rs rest : List RowD} {lv : List (Int × Int × Str)} {ex : Option Int} {s : Str}
theorem all_sok (hs : SOk sg) (hn : SOk nm) : SOk (allN sg nm) := fun x hx => by
  rcases allN_cases hx with h | rfl | h
  · exact hs x h
  · exact acc_ok
  · exact hn x h
theorem AllOk.go (h : AllOk sg nm rs lv) : GOk sg nm rs lv where
  l := fun r hr => (h.S.sym r hr).1
  r := fun r hr => (h.S.sym r hr).2
  st := by obtain ⟨s, rest, _, e⟩ := h.S.hd; exact ⟨_, _, _, _, e, rfl⟩
  z := Nat.le_trans h.z (by decide)
  rz := fun r hr => Nat.le_trans (h.rz r hr) (by decide)
  az := by unfold allN; rw [List.length_append, List.length_append]; have := h.sz; have := h.nz; show sg.length + 1 + nm.length ≤ 64; omega
  lvk := h.lvk
  vz := h.vz
theorem AllOk.ok (h : AllOk sg nm rs lv) : (mkGram sg nm rs lv ex).Ok := h.go.ok
theorem AllOk.ro (h : AllOk sg nm rs lv) : ROk rs where
  l := fun r hr => (h.row r hr).l
  r := fun r hr => (h.row r hr).r
  z := Nat.le_trans h.z (by decide)
  rz := fun r hr => Nat.le_trans (h.rz r hr) (by decide)
theorem AllOk.gs (h : AllOk sg nm rs lv) : GStr (mkGram sg nm rs lv ex) where
  n := all_sok h.ss h.sn
  a := fun r hr => by obtain ⟨i, q, hq, rfl⟩ := mkRules_mem hr; exact (h.row q (List.mem_of_getElem? hq)).a
  l := h.ls
theorem own_le4 {rs : List RuleD} (h : ∀ r ∈ rs, r.right.length ≤ 3) : (own rs).length ≤ 4 * rs.length := by
  induction rs with
  | nil => exact Nat.le_refl _
  | cons r rs ih =>
    unfold own
    rw [List.flatMap_cons, List.length_append, List.length_replicate, List.length_cons]
    have := ih fun q hq => h q (List.mem_cons_of_mem _ hq)
    have := h r List.mem_cons_self
    unfold own at *
    omega
theorem AllOk.own (h : AllOk sg nm rs lv) : (mkGram sg nm rs lv ex).owners.length ≤ 64 := by
  have := own_le4 (rs := mkRules (allN sg nm) rs) fun r hr => by
    obtain ⟨i, q, hq, rfl⟩ := mkRules_mem hr
    show (q.r.map _).length ≤ 3
    rw [List.length_map]; exact h.rz q (List.mem_of_getElem? hq)
  rw [mkRules_len] at this
  have := h.z
  show (Mine.own (mkRules (allN sg nm) rs)).length ≤ 64
  omega
theorem AllOk.pos (h : AllOk sg nm rs lv) : 0 < (mkGram sg nm rs lv ex).rules.length := by
  show 0 < (mkRules (allN sg nm) rs).length
  obtain ⟨s, rest, _, e⟩ := h.S.hd
  rw [mkRules_len, e]; exact Nat.succ_pos _
theorem start_eq (e : rs = accRow s :: rest) : startOf rs = s := by rw [e]; rfl
theorem AllOk.start (h : AllOk sg nm rs lv) : (mkGram sg nm rs lv ex).start < (mkGram sg nm rs lv ex).names.length := by
  obtain ⟨s, rest, hs, e⟩ := h.S.hd
  show (allN sg nm).idxOf (startOf rs) < (allN sg nm).length
  rw [start_eq e]; exact List.idxOf_lt_length_of_mem (nm_memA hs)
theorem AllOk.named (h : AllOk sg nm rs lv) : (Mine.nm (mkGram sg nm rs lv ex) (mkGram sg nm rs lv ex).start).length ≤ 100 := by
  obtain ⟨s, rest, hs, e⟩ := h.S.hd
  have : Mine.nm (mkGram sg nm rs lv ex) (mkGram sg nm rs lv ex).start = s := by
    show Mine.nm (mkGram sg nm rs lv ex) ((mkGram sg nm rs lv ex).names.idxOf (startOf rs)) = s
    rw [start_eq e]; exact nm_idx (nm_memA hs)
  rw [this]; exact h.sl s hs
theorem AllOk.ub0 (h : AllOk sg nm rs lv) (e : rs = accRow s :: rest) : ubB (mkGram sg nm rs lv ex) 0 = (hvL sg rs).contains s := by
  rw [ub_at h.S (r := accRow s) (by rw [e]; rfl)]
  have hE : (hvL sg rs).contains "$end" = true := List.contains_iff_mem.mpr (hav_sub h.S.en _)
  show (List.filter (fun y => !(hvL sg rs).contains y) [s, "$end"]).isEmpty = _
  rw [List.filter_cons, List.filter_cons, hE]
  cases (hvL sg rs).contains s <;> rfl
theorem nd_nB {nd : List Str} (h : ∀ x, x ∈ nd ↔ NReach rs (hav rs rs.length sg) x) {x : Str} : nd.contains x = nB sg rs x := by
  rw [Bool.eq_iff_iff, List.contains_iff_mem, nB_iff]; exact h x
theorem AllOk.hw (h : AllOk sg nm rs lv) (e : rs = accRow s :: rest) (hu : ubB (mkGram sg nm rs lv ex) 0 = true) : HW sg rs s := by
  rw [h.ub0 e] at hu; exact hvL_iff.mp (List.contains_iff_mem.mp hu)
theorem AllOk.sub (h : AllOk sg nm rs lv) (e : rs = accRow s :: rest) (hs : s ∈ nm) (hw : HW sg rs s) : AllOk sg (nm1 sg nm rs) (ks sg rs) lv where
  S := setup1 h.S e hs hw
  row := fun r hr => h.row r (List.mem_filter.mp hr).1
  z := Nat.le_trans (List.length_filter_le _ _) h.z
  rz := fun r hr => h.rz r (List.mem_filter.mp hr).1
  ss := h.ss
  sn := fun x hx => h.sn x (List.mem_filter.mp hx).1
  sl := fun x hx => h.sl x (List.mem_filter.mp hx).1
  sz := h.sz
  nz := Nat.le_trans (List.length_filter_le _ _) h.nz
  lvk := h.lvk
  vz := h.vz
  ls := h.ls
theorem row_kept {r : RowD} (hr : r ∈ rs) : (!kp sg rs r) = true ↔ r ∉ ks sg rs := by
  unfold ks
  rw [List.mem_filter, Bool.not_eq_true', ← Bool.not_eq_true]
  exact ⟨fun a b => a b.2, fun a b => a ⟨hr, b⟩⟩
-- the lists of the law's own start
theorem AllOk.of {i j : Nat} (hi : i < 2) (hj : j < 4) (hsg : sg = sgAll.take (5 + i)) (hnm : nm = nmAll.take (2 + j)) (hr : RowsOk ((sg.drop 1).take 1 ++ sg.drop 3) nm rs) (lvk : (lv.map lvK).Pairwise (· < ·)) (vz : lv.length ≤ 8) (ls : ∀ q ∈ lv, PyData.strOk q.2.2 = true) : AllOk sg nm rs lv := by
  have ss : SOk sg := fun x hx => sgAll_ok x (List.mem_of_mem_take (hsg ▸ hx))
  have sn : SOk nm := fun x hx => nmAll_ok x (List.mem_of_mem_take (hnm ▸ hx))
  have sub : ∀ x ∈ (sg.drop 1).take 1 ++ sg.drop 3 ++ nm, x ∈ sg ∨ x ∈ nm := fun x hx => by
    rcases List.mem_append.mp hx with hx | hx
    · rcases List.mem_append.mp hx with hx | hx
      · exact .inl (List.mem_of_mem_drop (List.mem_of_mem_take hx))
      · exact .inl (List.mem_of_mem_drop hx)
    · exact .inr hx
  have en : ("$end" : Str) ∈ sg := by rw [hsg, Nat.add_comm]; exact .head _
  obtain ⟨s, rest, hs, e, hrest⟩ := hr.ex
  have cs : ∀ {P : RowD → Prop}, P (accRow s) → (∀ r, RowOk ((sg.drop 1).take 1 ++ sg.drop 3) nm r → P r) → ∀ r ∈ rs, P r := fun h0 h1 r hr2 => by
    rw [e] at hr2
    rcases List.mem_cons.mp hr2 with rfl | hr2
    · exact h0
    · exact h1 r (hrest r hr2)
  exact {
    S := {
      nd := List.Nodup.sublist (by unfold allN; rw [hsg, hnm]; exact ((List.take_sublist _ _).append (List.Sublist.refl _)).append (List.take_sublist _ _)) all_nd
      sym := cs ⟨acc_mem, fun x hx => by
          rcases List.mem_cons.mp hx with rfl | hx
          · exact nm_memA hs
          · cases List.mem_singleton.mp hx; exact sg_mem en⟩ fun r hr2 => ⟨nm_memA hr2.l, fun x hx => (sub x (hr2.r x hx)).elim sg_mem nm_memA⟩
      hd := ⟨s, rest, hs, e⟩
      en := en }
    row := cs ⟨acc_ok, fun x hx => by
          rcases List.mem_cons.mp hx with rfl | hx
          · exact sn _ hs
          · cases List.mem_singleton.mp hx; exact ss _ en, fun x hx => by cases hx⟩ fun r hr2 => ⟨sn _ hr2.l, fun x hx => (sub x (hr2.r x hx)).elim (ss x) (sn x), hr2.a⟩
    z := hr.z
    rz := cs (by show 2 ≤ 3; decide) fun r hr2 => hr2.z
    ss := ss
    sn := sn
    sl := fun x hx => nmAll_len x (List.mem_of_mem_take (hnm ▸ hx))
    sz := by rw [hsg]; exact Nat.le_trans (List.length_take_le _ _) (by omega)
    nz := by rw [hnm]; exact Nat.le_trans (List.length_take_le _ _) (by omega)
    lvk := lvk
    vz := vz
    ls := ls }
end
end Mine
namespace Mine
section
variable {X : Cx} {A : Around} {H : Hs} {n : Nat} {L p : Addr} {τ : Int × Int} {xs : List Int} {sg nm nd : List Str} {rs rest : List RowD} {lv : List (Int × Int × Str)} {ex : Option Int} {s : Str} {sv : D} {b : Bool}
noncomputable abbrev envW (L : Addr) : Env := callEnvC fdLW L 279
noncomputable abbrev bodyW : List Stmt := stmtsOf fdLW.body
theorem law_E0 (hs : ∀ H, Op2 X A (compareOp .Is) sv .none H (.bool true) H) : Ex X A (execs bodyW.tail.tail.tail.tail.tail.tail.tail.tail.tail.tail.tail.tail.tail.tail.tail.tail (envW L)) ((L, P.ns [("lost", .lst (((rs.zipIdx.filter fun q => !kp sg rs q.1).map fun q => q.2).map dN)), ("wordless", .lst ((nm.filter fun y => !(hvL sg rs).contains y).map .str)), ("idle", .lst ((nm.filter fun y => (hvL sg rs).contains y && !nB sg rs y).map .str)), ("small", sv), ("before", dToldAll (mkGram sg nm rs lv ex) X), ("expect", dOI ex), ("levels", .dct X.w (lv.map lvK) (lv.map lvD)), ("rows", .lst (rs.map dRow)), ("names", .lst (nm.map .str)), ("signs", .lst (sg.map .str)), ("script", dScr xs)]) :: (L + 5, P.cell (some (dGram X (mkGram sg nm rs lv ex)))) :: (L + 4, P.cell (some (.lst ((ks sg rs).map dRow)))) :: (L + 3, P.cell (some (.lst (nd.map .str)))) :: (L + 2, P.cell (some (.lst ((hvL sg rs).map .str)))) :: (L + 1, P.cell (some (.ptr p))) :: (p, penP τ) :: H) (Ret (.bool true) H) := by
  apply ex_if
  rfl
  apply ask_cmp
  rfl
  exact ev_local rfl rfl rfl
  exact ev_none rfl
  exact hs _
  rfl
  · intro hT
    apply ex_ret
    rfl
    exact ev_bool rfl
    exact ⟨(fun q => by cases q), fun _ => ⟨.inl rfl, .skip (.skip (.skip (.skip (.skip (.skip (.skip .rfl))))))⟩⟩
  · intro hF
    cases hF
theorem law_E1 (hA : Rm A (n + 8)) (h : AllOk sg nm rs lv) (e : rs = accRow s :: rest) (hsn : s ∈ nm) (hw : HW sg rs s) (hnd : ∀ x, nd.contains x = nB sg rs x) (hns : SOk nd) (hsv : sv = dGram X (mkGram sg (nm1 sg nm rs) (ks sg rs) lv ex)) : Ex X A (execs bodyW.tail.tail.tail.tail.tail.tail.tail.tail.tail.tail.tail.tail.tail.tail.tail.tail (envW L)) ((L, P.ns [("lost", .lst (((rs.zipIdx.filter fun q => !kp sg rs q.1).map fun q => q.2).map dN)), ("wordless", .lst ((nm.filter fun y => !(hvL sg rs).contains y).map .str)), ("idle", .lst ((nm.filter fun y => (hvL sg rs).contains y && !nB sg rs y).map .str)), ("small", sv), ("before", dToldAll (mkGram sg nm rs lv ex) X), ("expect", dOI ex), ("levels", .dct X.w (lv.map lvK) (lv.map lvD)), ("rows", .lst (rs.map dRow)), ("names", .lst (nm.map .str)), ("signs", .lst (sg.map .str)), ("script", dScr xs)]) :: (L + 5, P.cell (some (dGram X (mkGram sg nm rs lv ex)))) :: (L + 4, P.cell (some (.lst ((ks sg rs).map dRow)))) :: (L + 3, P.cell (some (.lst (nd.map .str)))) :: (L + 2, P.cell (some (.lst ((hvL sg rs).map .str)))) :: (L + 1, P.cell (some (.ptr p))) :: (p, penP τ) :: H) (Ret (.bool true) H) := by
  subst hsv
  have h1 := h.sub e hsn hw
  have hred : ∀ K, Fn X A (.ref 221) [dGram X (mkGram sg (nm1 sg nm rs) (ks sg rs) lv ex)] K (.bool true) K := fun K => by
    have := w_isred (n := n + 2) (X := X) (H := K) hA h1.ok (h1.gs (ex := ex)).n
    rwa [wl1 h.S e hsn hw, ur1 h.S e hsn hw, lt1 h.S e hsn hw] at this
  have hag := red_again (lv := lv) (ex := ex) h.S e hsn hw
  have hu1 : ubB (mkGram sg (nm1 sg nm rs) (ks sg rs) lv ex) 0 = true := by
    rw [h1.ub0 (ks_cons h.S e hw)]
    exact (nB1 h.S (List.mem_filter.mpr ⟨hsn, nB_iff.mpr (start_reach h.S e hw)⟩)).2
  have hrd : ∀ K, Fn X A (.ref 214) [dGram X (mkGram sg (nm1 sg nm rs) (ks sg rs) lv ex)] K (dGram X (mkGram sg (nm1 sg nm rs) (ks sg rs) lv ex)) K := fun K => by
    have := w_reduced (n := n + 2) (X := X) (H := K) hA h1.ok h1.pos hu1 (by rw [hag]; exact h1.ok) h1.start
    rwa [hag] at this
  apply ex_if
  rfl
  apply ask_cmp
  rfl
  exact ev_local rfl rfl rfl
  exact ev_none rfl
  exact op_isObj
  rfl
  · intro hT
    cases hT
  · intro hF
    refine ex_end rfl (thn ?_)
    apply ex_assign
    rfl
    apply ev_call
    rfl
    exact ev_global rfl rfl rfl
    first | exact .inl ⟨_, rfl⟩ | exact .inr (.inl ⟨_, rfl⟩) | exact .inr (.inr (by kernel_rfl))
    apply as_cons
    rfl
    rfl
    exact ev_local rfl rfl rfl
    apply as_cons
    rfl
    rfl
    apply ev_compF (nm) (D.str) (D.str) (nB sg rs)
    rfl
    exact ⟨rfl, rfl, rfl, rfl, fun _ => rfl⟩
    apply srcE (d := .lst (nm.map .str))
    exact ev_local rfl rfl rfl
    exact src_list hA.hh fun _ _ => rfl
    exact sz64 (Nat.le_trans h.nz (by decide))
    · refine fun C T y hy => ⟨_, Bnd.asg rfl (bnd_local rfl (.head _) Up.head), ?_, fun hp => ?_⟩
      · apply ask_cmp
        rfl
        exact ev_local rfl rfl rfl
        apply ev_cell
        rfl
        rfl
        rfl
        first | exact .head _ | exact .tail _ (.head _) | exact .tail _ (.tail _ (.head _)) | exact .tail _ (.tail _ (.tail _ (.head _))) | exact .tail _ (.tail _ (.tail _ (.tail _ (.head _)))) | exact .tail _ (.tail _ (.tail _ (.tail _ (.tail _ (.head _))))) | exact .tail _ (.tail _ (.tail _ (.tail _ (.tail _ (.tail _ (.head _)))))) | exact .tail _ (.tail _ (.tail _ (.tail _ (.tail _ (.tail _ (.tail _ (.head _))))))) | exact .tail _ (.tail _ (.tail _ (.tail _ (.tail _ (.tail _ (.tail _ (.tail _ (.head _))))))))
        exact hnd y ▸ op_inS hA sq hns (h.sn y hy)
        rfl
      · exact ev_local rfl rfl rfl
    apply as_cons
    rfl
    rfl
    apply ev_cell
    rfl
    rfl
    rfl
    first | exact .head _ | exact .tail _ (.head _) | exact .tail _ (.tail _ (.head _)) | exact .tail _ (.tail _ (.tail _ (.head _))) | exact .tail _ (.tail _ (.tail _ (.tail _ (.head _)))) | exact .tail _ (.tail _ (.tail _ (.tail _ (.tail _ (.head _))))) | exact .tail _ (.tail _ (.tail _ (.tail _ (.tail _ (.tail _ (.head _)))))) | exact .tail _ (.tail _ (.tail _ (.tail _ (.tail _ (.tail _ (.tail _ (.head _))))))) | exact .tail _ (.tail _ (.tail _ (.tail _ (.tail _ (.tail _ (.tail _ (.tail _ (.head _))))))))
    apply as_cons
    rfl
    rfl
    apply call1
    rfl
    rfl
    rfl
    exact ev_builtin rfl rfl rfl boot_dict
    first | exact .inl ⟨_, rfl⟩ | exact .inr (.inl ⟨_, rfl⟩) | exact .inr (.inr (by kernel_rfl))
    exact ev_local rfl rfl rfl
    exact cd_dict (by rw [List.length_map]; exact sz64 (Nat.le_trans h.vz (by decide)))
    apply as_cons
    rfl
    rfl
    exact ev_local rfl rfl rfl
    exact as_nil
    exact (w_grammar (n := n + 5) (nm := nm1 sg nm rs) (ex := ex) hA h1.go).call
    exact bnd_local rfl (.head _) Up.head
    rfl
    apply ex_if
    rfl
    apply ask_or
    rfl
    apply ask_cmp
    rfl
    apply call1
    rfl
    rfl
    rfl
    exact ev_global rfl rfl rfl
    first | exact .inl ⟨_, rfl⟩ | exact .inr (.inl ⟨_, rfl⟩) | exact .inr (.inr (by kernel_rfl))
    exact ev_local rfl rfl rfl
    exact (w_toldAll (n := n + 5) hA h1.ok h1.own).call
    apply call1
    rfl
    rfl
    rfl
    exact ev_global rfl rfl rfl
    first | exact .inl ⟨_, rfl⟩ | exact .inr (.inl ⟨_, rfl⟩) | exact .inr (.inr (by kernel_rfl))
    exact ev_local rfl rfl rfl
    exact (w_toldAll (n := n + 5) hA h1.ok h1.own).call
    exact op_neTold hA h1.gs
    rfl
    intro hO
    apply ask_not
    rfl
    apply ask_plain
    apply call1
    rfl
    rfl
    rfl
    exact ev_global rfl rfl rfl
    first | exact .inl ⟨_, rfl⟩ | exact .inr (.inl ⟨_, rfl⟩) | exact .inr (.inr (by kernel_rfl))
    exact ev_local rfl rfl rfl
    exact (hred _).call
    exact fun _ => rfl
    exact fun _ => rfl
    · intro hT
      cases hT
    · intro hF
      refine ex_end rfl (thn ?_)
      apply ex_ret
      rfl
      apply ev_cmp
      rfl
      apply call1
      rfl
      rfl
      rfl
      exact ev_global rfl rfl rfl
      first | exact .inl ⟨_, rfl⟩ | exact .inr (.inl ⟨_, rfl⟩) | exact .inr (.inr (by kernel_rfl))
      apply call1
      rfl
      rfl
      rfl
      exact ev_global rfl rfl rfl
      first | exact .inl ⟨_, rfl⟩ | exact .inr (.inl ⟨_, rfl⟩) | exact .inr (.inr (by kernel_rfl))
      exact ev_local rfl rfl rfl
      exact (hrd _).call
      exact (w_toldAll (n := n + 5) hA h1.ok h1.own).call
      apply call1
      rfl
      rfl
      rfl
      exact ev_global rfl rfl rfl
      first | exact .inl ⟨_, rfl⟩ | exact .inr (.inl ⟨_, rfl⟩) | exact .inr (.inr (by kernel_rfl))
      exact ev_local rfl rfl rfl
      exact (w_toldAll (n := n + 5) hA h1.ok h1.own).call
      exact op_eqTold hA h1.gs
      rfl
      exact ⟨.inl rfl, .skip (.skip (.skip (.skip (.skip (.skip (.skip .rfl))))))⟩
end
end Mine
namespace Mine
section
variable {X : Cx} {A : Around} {H H₀ : Hs} {n : Nat} {L p : Addr} {τ : Int × Int} {xs : List Int} {sg nm nd : List Str} {rs rest : List RowD} {lv : List (Int × Int × Str)} {ex : Option Int} {s : Str} {sv : D} {b : Bool}
theorem tri_self {a b : List Str} {c : List Nat} : (!(a == a && (b == b && c == c))) = false := by
  rw [beq_self_eq_true, beq_self_eq_true, beq_self_eq_true]; rfl
theorem emp_eq {α : Type} [BEq α] {a : List α} : (a == []) = a.isEmpty := by cases a <;> rfl
theorem law_D (hA : Rm A (n + 8)) (h : AllOk sg nm rs lv) (e : rs = accRow s :: rest) (hsn : s ∈ nm) (hnd : ∀ x, nd.contains x = nB sg rs x) (hns : SOk nd) (hs : ∀ K, Op2 X A (compareOp .Is) sv .none K (.bool b) K) (hb : b = !(hvL sg rs).contains s)
    (k : Ex X A (execs bodyW.tail.tail.tail.tail.tail.tail.tail.tail.tail.tail.tail.tail.tail.tail.tail.tail (envW L)) ((L, P.ns [("lost", .lst (((rs.zipIdx.filter fun q => !kp sg rs q.1).map fun q => q.2).map dN)), ("wordless", .lst ((nm.filter fun y => !(hvL sg rs).contains y).map .str)), ("idle", .lst ((nm.filter fun y => (hvL sg rs).contains y && !nB sg rs y).map .str)), ("small", sv), ("before", dToldAll (mkGram sg nm rs lv ex) X), ("expect", dOI ex), ("levels", .dct X.w (lv.map lvK) (lv.map lvD)), ("rows", .lst (rs.map dRow)), ("names", .lst (nm.map .str)), ("signs", .lst (sg.map .str)), ("script", dScr xs)]) :: (L + 5, P.cell (some (dGram X (mkGram sg nm rs lv ex)))) :: (L + 4, P.cell (some (.lst ((ks sg rs).map dRow)))) :: (L + 3, P.cell (some (.lst (nd.map .str)))) :: (L + 2, P.cell (some (.lst ((hvL sg rs).map .str)))) :: (L + 1, P.cell (some (.ptr p))) :: (p, penP τ) :: H) (Ret (.bool true) H)) : Ex X A (execs bodyW.tail.tail.tail.tail.tail.tail.tail.tail.tail.tail.tail (envW L)) ((L, P.ns [("small", sv), ("before", dToldAll (mkGram sg nm rs lv ex) X), ("expect", dOI ex), ("levels", .dct X.w (lv.map lvK) (lv.map lvD)), ("rows", .lst (rs.map dRow)), ("names", .lst (nm.map .str)), ("signs", .lst (sg.map .str)), ("script", dScr xs)]) :: (L + 5, P.cell (some (dGram X (mkGram sg nm rs lv ex)))) :: (L + 4, P.cell none) :: (L + 3, P.cell (some (.lst (nd.map .str)))) :: (L + 2, P.cell (some (.lst ((hvL sg rs).map .str)))) :: (L + 1, P.cell (some (.ptr p))) :: (p, penP τ) :: H) (Ret (.bool true) H) := by
  have hho : SOk (hvL sg rs) := hav_ok h.ro h.ss _
  have hhl : (hvL sg rs).length ≤ sizeLine := by
    have h1 := hav_le (rs := rs) (xs := sg) rs.length
    have h2 : rs.length * rs.length ≤ 9 * 9 := Nat.mul_le_mul h.z h.z
    have h3 := h.sz
    have h4 : 5000 ≤ sizeLine := by decide
    show (hav rs rs.length sg).length ≤ _
    omega
  have hrz : rs.length ≤ 64 := Nat.le_trans h.z (by decide)
  have hlt : ltOf (mkGram sg nm rs lv ex) = ((rs.zipIdx.filter fun q => !kp sg rs q.1).map fun q => q.2) := lt_eq h.S
  have hwl : wlOf (mkGram sg nm rs lv ex) (nts (mkGram sg nm rs lv ex)) = (nm.filter fun y => !(hvL sg rs).contains y) := wl_eq h.S
  have hur : urOf (mkGram sg nm rs lv ex) (nts (mkGram sg nm rs lv ex)) = (nm.filter fun y => (hvL sg rs).contains y && !nB sg rs y) := ur_eq h.S
  have hus : ∀ K, Fn X A (.ref 209) [dGram X (mkGram sg nm rs lv ex)] K (dTri (nm.filter fun y => !(hvL sg rs).contains y) (nm.filter fun y => (hvL sg rs).contains y && !nB sg rs y) ((rs.zipIdx.filter fun q => !kp sg rs q.1).map fun q => q.2)) K := fun K => by
    have := w_useless (n := n + 3) (X := X) (H := K) hA (h.ok (ex := ex))
    unfold dUseless at this
    rwa [hwl, hur, hlt] at this
  have his : ∀ K, Fn X A (.ref 221) [dGram X (mkGram sg nm rs lv ex)] K (.bool ((nm.filter fun y => !(hvL sg rs).contains y) == [] && ((nm.filter fun y => (hvL sg rs).contains y && !nB sg rs y) == [] && ((rs.zipIdx.filter fun q => !kp sg rs q.1).map fun q => q.2) == []))) K := fun K => by
    have := w_isred (n := n + 2) (X := X) (H := K) hA (h.ok (ex := ex)) (h.gs (ex := ex)).n
    rwa [hwl, hur, hlt] at this
  have hs0 : PyData.strOk s = true := h.sn s hsn
  apply ex_if
  rfl
  apply ask_or
  rfl
  apply ask_cmp
  rfl
  apply call1
  rfl
  rfl
  rfl
  exact ev_global rfl rfl rfl
  first | exact .inl ⟨_, rfl⟩ | exact .inr (.inl ⟨_, rfl⟩) | exact .inr (.inr (by kernel_rfl))
  apply ev_cell
  rfl
  rfl
  rfl
  first | exact .head _ | exact .tail _ (.head _) | exact .tail _ (.tail _ (.head _)) | exact .tail _ (.tail _ (.tail _ (.head _))) | exact .tail _ (.tail _ (.tail _ (.tail _ (.head _)))) | exact .tail _ (.tail _ (.tail _ (.tail _ (.tail _ (.head _))))) | exact .tail _ (.tail _ (.tail _ (.tail _ (.tail _ (.tail _ (.head _)))))) | exact .tail _ (.tail _ (.tail _ (.tail _ (.tail _ (.tail _ (.tail _ (.head _))))))) | exact .tail _ (.tail _ (.tail _ (.tail _ (.tail _ (.tail _ (.tail _ (.tail _ (.head _))))))))
  exact (w_toldAll (n := n + 5) hA h.ok h.own).call
  exact ev_local rfl rfl rfl
  exact op_neTold hA h.gs
  rfl
  intro hO
  apply ask_cmp
  rfl
  apply ev_cmp
  rfl
  exact ev_local rfl rfl rfl
  exact ev_none rfl
  exact hs _
  rfl
  apply ev_cmp
  rfl
  apply ev_itemT (k := 0)
  rfl
  apply ev_itemT (k := 1)
  rfl
  apply ev_item (k := 0)
  rfl
  exact ev_local rfl rfl rfl
  exact ev_int rfl
  exact sq
  exact (show (rs.map dRow)[0]? = some (dRow (accRow s)) by rw [e]; rfl)
  exact Nat.le_of_ble_eq_true rfl
  exact fun _ _ => rfl
  exact ev_int rfl
  exact sq
  rfl
  exact Nat.le_of_ble_eq_true rfl
  exact fun _ _ => rfl
  exact ev_int rfl
  exact sq
  rfl
  exact Nat.le_of_ble_eq_true rfl
  exact fun _ _ => rfl
  apply ev_cell
  rfl
  rfl
  rfl
  first | exact .head _ | exact .tail _ (.head _) | exact .tail _ (.tail _ (.head _)) | exact .tail _ (.tail _ (.tail _ (.head _))) | exact .tail _ (.tail _ (.tail _ (.tail _ (.head _)))) | exact .tail _ (.tail _ (.tail _ (.tail _ (.tail _ (.head _))))) | exact .tail _ (.tail _ (.tail _ (.tail _ (.tail _ (.tail _ (.head _)))))) | exact .tail _ (.tail _ (.tail _ (.tail _ (.tail _ (.tail _ (.tail _ (.head _))))))) | exact .tail _ (.tail _ (.tail _ (.tail _ (.tail _ (.tail _ (.tail _ (.tail _ (.head _))))))))
  exact op_notinS hA sq hho hs0
  rfl
  exact op_neB hA
  rfl
  exact fun _ => rfl
  · intro hT
    rw [hb, beq_self_eq_true] at hT
    cases hT
  · intro hF
    refine ex_end rfl (thn ?_)
    apply ex_assign
    rfl
    apply ev_compF (rs) (dRow) (dRow) (kp sg rs)
    rfl
    exact ⟨rfl, rfl, rfl, rfl, fun _ => rfl⟩
    apply srcE (d := .lst (rs.map dRow))
    exact ev_local rfl rfl rfl
    exact src_list hA.hh fun _ _ => rfl
    exact sz64 hrz
    · refine fun C T r hrr => ⟨_, Bnd.asg rfl (bnd_local rfl (.head _) Up.head), ?_, fun hp => ?_⟩
      · apply ask_and
        rfl
        apply ask_cmp
        rfl
        apply ev_itemT (k := 0)
        rfl
        exact ev_local rfl rfl rfl
        exact ev_int rfl
        exact sq
        rfl
        exact Nat.le_of_ble_eq_true rfl
        exact fun _ _ => rfl
        apply ev_cell
        rfl
        rfl
        rfl
        first | exact .head _ | exact .tail _ (.head _) | exact .tail _ (.tail _ (.head _)) | exact .tail _ (.tail _ (.tail _ (.head _))) | exact .tail _ (.tail _ (.tail _ (.tail _ (.head _)))) | exact .tail _ (.tail _ (.tail _ (.tail _ (.tail _ (.head _))))) | exact .tail _ (.tail _ (.tail _ (.tail _ (.tail _ (.tail _ (.head _)))))) | exact .tail _ (.tail _ (.tail _ (.tail _ (.tail _ (.tail _ (.tail _ (.head _))))))) | exact .tail _ (.tail _ (.tail _ (.tail _ (.tail _ (.tail _ (.tail _ (.tail _ (.head _))))))))
        exact hnd r.l ▸ op_inS hA sq hns (h.row r hrr).l
        rfl
        intro hT1
        apply ask_cmp
        rfl
        apply ev_compF (r.r) (D.str) (D.str) (fun y => !(hvL sg rs).contains y)
        rfl
        exact ⟨rfl, rfl, rfl, rfl, fun _ => rfl⟩
        apply srcE (d := .tup (r.r.map .str))
        apply ev_itemT (k := 1)
        rfl
        exact ev_local rfl rfl rfl
        exact ev_int rfl
        exact sq
        rfl
        exact Nat.le_of_ble_eq_true rfl
        exact fun _ _ => rfl
        exact src_tup hA.hh fun _ _ => rfl
        exact sz64 (Nat.le_trans (h.rz r hrr) (by decide))
        · refine fun C T y hy => ⟨_, Bnd.asg rfl (bnd_local rfl (.head _) Up.head), ?_, fun hp => ?_⟩
          · apply ask_cmp
            rfl
            exact ev_local rfl rfl rfl
            apply ev_cell
            rfl
            rfl
            rfl
            first | exact .head _ | exact .tail _ (.head _) | exact .tail _ (.tail _ (.head _)) | exact .tail _ (.tail _ (.tail _ (.head _))) | exact .tail _ (.tail _ (.tail _ (.tail _ (.head _)))) | exact .tail _ (.tail _ (.tail _ (.tail _ (.tail _ (.head _))))) | exact .tail _ (.tail _ (.tail _ (.tail _ (.tail _ (.tail _ (.head _)))))) | exact .tail _ (.tail _ (.tail _ (.tail _ (.tail _ (.tail _ (.tail _ (.head _))))))) | exact .tail _ (.tail _ (.tail _ (.tail _ (.tail _ (.tail _ (.tail _ (.tail _ (.head _))))))))
            exact op_notinS hA sq hho ((h.row r hrr).r y hy)
            rfl
          · exact ev_local rfl rfl rfl
        exact ev_nil rfl
        exact op_eqNilS hA fun x hx => (h.row r hrr).r x (List.mem_filter.mp hx).1
        rfl
        exact fun _ => rfl
      · exact ev_local rfl rfl rfl
    apply bnd_cell
    rfl
    rfl
    first | exact .head _ | exact .tail _ (.head _) | exact .tail _ (.tail _ (.head _)) | exact .tail _ (.tail _ (.tail _ (.head _))) | exact .tail _ (.tail _ (.tail _ (.tail _ (.head _)))) | exact .tail _ (.tail _ (.tail _ (.tail _ (.tail _ (.head _))))) | exact .tail _ (.tail _ (.tail _ (.tail _ (.tail _ (.tail _ (.head _)))))) | exact .tail _ (.tail _ (.tail _ (.tail _ (.tail _ (.tail _ (.tail _ (.head _))))))) | exact .tail _ (.tail _ (.tail _ (.tail _ (.tail _ (.tail _ (.tail _ (.tail _ (.head _))))))))
    first | exact Up.head | exact Up.tail (Up.head) | exact Up.tail (Up.tail (Up.head)) | exact Up.tail (Up.tail (Up.tail (Up.head))) | exact Up.tail (Up.tail (Up.tail (Up.tail (Up.head)))) | exact Up.tail (Up.tail (Up.tail (Up.tail (Up.tail (Up.head))))) | exact Up.tail (Up.tail (Up.tail (Up.tail (Up.tail (Up.tail (Up.head)))))) | exact Up.tail (Up.tail (Up.tail (Up.tail (Up.tail (Up.tail (Up.tail (Up.head))))))) | exact Up.tail (Up.tail (Up.tail (Up.tail (Up.tail (Up.tail (Up.tail (Up.tail (Up.head))))))))
    rfl
    apply ex_assignSwap hA.hh rfl rfl rfl
    apply ev_tup
    rfl
    apply as_cons
    rfl
    rfl
    apply ev_compF (nm) (D.str) (D.str) (fun y => !(hvL sg rs).contains y)
    rfl
    exact ⟨rfl, rfl, rfl, rfl, fun _ => rfl⟩
    apply srcE (d := .lst (nm.map .str))
    exact ev_local rfl rfl rfl
    exact src_list hA.hh fun _ _ => rfl
    exact sz64 (Nat.le_trans h.nz (by decide))
    · refine fun C T y hy => ⟨_, Bnd.asg rfl (bnd_local rfl (.head _) Up.head), ?_, fun hp => ?_⟩
      · apply ask_cmp
        rfl
        exact ev_local rfl rfl rfl
        apply ev_cell
        rfl
        rfl
        rfl
        first | exact .head _ | exact .tail _ (.head _) | exact .tail _ (.tail _ (.head _)) | exact .tail _ (.tail _ (.tail _ (.head _))) | exact .tail _ (.tail _ (.tail _ (.tail _ (.head _)))) | exact .tail _ (.tail _ (.tail _ (.tail _ (.tail _ (.head _))))) | exact .tail _ (.tail _ (.tail _ (.tail _ (.tail _ (.tail _ (.head _)))))) | exact .tail _ (.tail _ (.tail _ (.tail _ (.tail _ (.tail _ (.tail _ (.head _))))))) | exact .tail _ (.tail _ (.tail _ (.tail _ (.tail _ (.tail _ (.tail _ (.tail _ (.head _))))))))
        exact op_notinS hA sq hho (h.sn y hy)
        rfl
      · exact ev_local rfl rfl rfl
    apply as_cons
    rfl
    rfl
    apply ev_compF (nm) (D.str) (D.str) (fun y => (hvL sg rs).contains y && !nB sg rs y)
    rfl
    exact ⟨rfl, rfl, rfl, rfl, fun _ => rfl⟩
    apply srcE (d := .lst (nm.map .str))
    exact ev_local rfl rfl rfl
    exact src_list hA.hh fun _ _ => rfl
    exact sz64 (Nat.le_trans h.nz (by decide))
    · refine fun C T y hy => ⟨_, Bnd.asg rfl (bnd_local rfl (.head _) Up.head), ?_, fun hp => ?_⟩
      · apply ask_and
        rfl
        apply ask_cmp
        rfl
        exact ev_local rfl rfl rfl
        apply ev_cell
        rfl
        rfl
        rfl
        first | exact .head _ | exact .tail _ (.head _) | exact .tail _ (.tail _ (.head _)) | exact .tail _ (.tail _ (.tail _ (.head _))) | exact .tail _ (.tail _ (.tail _ (.tail _ (.head _)))) | exact .tail _ (.tail _ (.tail _ (.tail _ (.tail _ (.head _))))) | exact .tail _ (.tail _ (.tail _ (.tail _ (.tail _ (.tail _ (.head _)))))) | exact .tail _ (.tail _ (.tail _ (.tail _ (.tail _ (.tail _ (.tail _ (.head _))))))) | exact .tail _ (.tail _ (.tail _ (.tail _ (.tail _ (.tail _ (.tail _ (.tail _ (.head _))))))))
        exact op_inS hA sq hho (h.sn y hy)
        rfl
        intro hT2
        apply ask_cmp
        rfl
        exact ev_local rfl rfl rfl
        apply ev_cell
        rfl
        rfl
        rfl
        first | exact .head _ | exact .tail _ (.head _) | exact .tail _ (.tail _ (.head _)) | exact .tail _ (.tail _ (.tail _ (.head _))) | exact .tail _ (.tail _ (.tail _ (.tail _ (.head _)))) | exact .tail _ (.tail _ (.tail _ (.tail _ (.tail _ (.head _))))) | exact .tail _ (.tail _ (.tail _ (.tail _ (.tail _ (.tail _ (.head _)))))) | exact .tail _ (.tail _ (.tail _ (.tail _ (.tail _ (.tail _ (.tail _ (.head _))))))) | exact .tail _ (.tail _ (.tail _ (.tail _ (.tail _ (.tail _ (.tail _ (.tail _ (.head _))))))))
        exact hnd y ▸ op_notinS hA sq hns (h.sn y hy)
        rfl
        exact fun _ => rfl
      · exact ev_local rfl rfl rfl
    exact as_nil
    rfl
    exact bnd_local rfl (.head _) Up.head
    exact bnd_local rfl (.head _) Up.head
    rfl
    apply ex_compF (rs.zipIdx) (fun q => D.tup [.int (q.2 : Int), dRow q.1]) (fun q => dN q.2) (fun q => !kp sg rs q.1)
    rfl
    rfl
    exact ⟨rfl, rfl, rfl, rfl, fun _ => rfl⟩
    rw [← enum_map]
    apply srcE_enum_list hA.hh
    rfl
    rfl
    exact ev_builtin rfl rfl rfl boot_enumerate
    apply as_cons
    rfl
    rfl
    exact ev_local rfl rfl rfl
    exact as_nil
    exact (by rw [List.length_zipIdx]; exact sz64 hrz)
    · refine fun C T q hq => ⟨_, asg_pair hA.hh rfl rfl (Bnd.asg rfl (bnd_local rfl (.head _) Up.head)) (Bnd.asg rfl (bnd_local rfl (.head _) Up.head)), ?_, fun hp => ?_⟩
      · apply ask_cmp
        rfl
        exact ev_local rfl rfl rfl
        apply ev_cell
        rfl
        rfl
        rfl
        first | exact .head _ | exact .tail _ (.head _) | exact .tail _ (.tail _ (.head _)) | exact .tail _ (.tail _ (.tail _ (.head _))) | exact .tail _ (.tail _ (.tail _ (.tail _ (.head _)))) | exact .tail _ (.tail _ (.tail _ (.tail _ (.tail _ (.head _))))) | exact .tail _ (.tail _ (.tail _ (.tail _ (.tail _ (.tail _ (.head _)))))) | exact .tail _ (.tail _ (.tail _ (.tail _ (.tail _ (.tail _ (.tail _ (.head _))))))) | exact .tail _ (.tail _ (.tail _ (.tail _ (.tail _ (.tail _ (.tail _ (.tail _ (.head _))))))))
        exact op_notinR hA (fun r hr => h.row r (List.mem_filter.mp hr).1) (h.row q.1 (zip_mem hq)) (row_kept (zip_mem hq))
        rfl
      · exact ev_local rfl rfl rfl
    exact fun C => bnd_local rfl (.tail _ (.head _)) (Up.tail Up.head)
    rfl
    apply ex_if
    rfl
    apply ask_or
    rfl
    apply ask_cmp
    rfl
    apply call1
    rfl
    rfl
    rfl
    exact ev_global rfl rfl rfl
    first | exact .inl ⟨_, rfl⟩ | exact .inr (.inl ⟨_, rfl⟩) | exact .inr (.inr (by kernel_rfl))
    apply ev_cell
    rfl
    rfl
    rfl
    first | exact .head _ | exact .tail _ (.head _) | exact .tail _ (.tail _ (.head _)) | exact .tail _ (.tail _ (.tail _ (.head _))) | exact .tail _ (.tail _ (.tail _ (.tail _ (.head _)))) | exact .tail _ (.tail _ (.tail _ (.tail _ (.tail _ (.head _))))) | exact .tail _ (.tail _ (.tail _ (.tail _ (.tail _ (.tail _ (.head _)))))) | exact .tail _ (.tail _ (.tail _ (.tail _ (.tail _ (.tail _ (.tail _ (.head _))))))) | exact .tail _ (.tail _ (.tail _ (.tail _ (.tail _ (.tail _ (.tail _ (.tail _ (.head _))))))))
    exact (hus _).call
    apply ev_tup
    rfl
    apply as_cons
    rfl
    rfl
    exact ev_local rfl rfl rfl
    apply as_cons
    rfl
    rfl
    exact ev_local rfl rfl rfl
    apply as_cons
    rfl
    rfl
    apply fun h => Ev.as h (show _ = D.lst (((rs.zipIdx.filter fun q => !kp sg rs q.1).map fun q => q.2).map dN) from congrArg D.lst (List.map_map ..).symm)
    exact ev_local rfl rfl rfl
    exact as_nil
    rfl
    exact op_neTri hA (fun x hx => h.sn x (List.mem_filter.mp hx).1) (fun x hx => h.sn x (List.mem_filter.mp hx).1) (fun x hx => h.sn x (List.mem_filter.mp hx).1) (fun x hx => h.sn x (List.mem_filter.mp hx).1)
    rfl
    intro hO
    apply ask_cmp
    rfl
    apply call1
    rfl
    rfl
    rfl
    exact ev_global rfl rfl rfl
    first | exact .inl ⟨_, rfl⟩ | exact .inr (.inl ⟨_, rfl⟩) | exact .inr (.inr (by kernel_rfl))
    apply ev_cell
    rfl
    rfl
    rfl
    first | exact .head _ | exact .tail _ (.head _) | exact .tail _ (.tail _ (.head _)) | exact .tail _ (.tail _ (.tail _ (.head _))) | exact .tail _ (.tail _ (.tail _ (.tail _ (.head _)))) | exact .tail _ (.tail _ (.tail _ (.tail _ (.tail _ (.head _))))) | exact .tail _ (.tail _ (.tail _ (.tail _ (.tail _ (.tail _ (.head _)))))) | exact .tail _ (.tail _ (.tail _ (.tail _ (.tail _ (.tail _ (.tail _ (.head _))))))) | exact .tail _ (.tail _ (.tail _ (.tail _ (.tail _ (.tail _ (.tail _ (.tail _ (.head _))))))))
    exact (his _).call
    apply ev_and3
    rfl
    apply ev_cmp
    rfl
    exact ev_local rfl rfl rfl
    exact ev_nil rfl
    exact op_eqNilS hA fun x hx => h.sn x (List.mem_filter.mp hx).1
    rfl
    apply ev_cmp
    rfl
    exact ev_local rfl rfl rfl
    exact ev_nil rfl
    exact op_eqNilS hA fun x hx => h.sn x (List.mem_filter.mp hx).1
    rfl
    apply ev_cmp
    rfl
    apply fun h => Ev.as h (show _ = D.lst (((rs.zipIdx.filter fun q => !kp sg rs q.1).map fun q => q.2).map dN) from congrArg D.lst (List.map_map ..).symm)
    exact ev_local rfl rfl rfl
    exact ev_nil rfl
    exact op_eqNilN hA
    rfl
    exact op_neB hA
    rfl
    exact fun _ => rfl
    · intro hT
      rw [tri_self, emp_eq, emp_eq, emp_eq, beq_self_eq_true] at hT
      cases hT
    · intro hF
      refine ex_end rfl (thn ?_)
      rw [List.map_map] at k
      exact k
end
end Mine
namespace Mine
section
variable {X : Cx} {A : Around} {H H₀ : Hs} {n : Nat} {L p : Addr} {τ : Int × Int} {xs : List Int} {sg nm nd : List Str} {rs rest : List RowD} {lv : List (Int × Int × Str)} {ex : Option Int} {s : Str} {sv : D} {b : Bool}
theorem law_C (hX : LamOk X) (hA : Rm A (n + 8)) (fo : ∀ m K, FrOk A ((L, P.ns m) :: K) [envW L]) (h : AllOk sg nm rs lv) (e : rs = accRow s :: rest) (hsn : s ∈ nm) (hnd : ∀ x, nd.contains x = nB sg rs x) (hns : SOk nd) : Ex X A (execs bodyW.tail.tail.tail.tail.tail.tail.tail.tail.tail.tail (envW L)) ((L, P.ns [("before", dToldAll (mkGram sg nm rs lv ex) X), ("expect", dOI ex), ("levels", .dct X.w (lv.map lvK) (lv.map lvD)), ("rows", .lst (rs.map dRow)), ("names", .lst (nm.map .str)), ("signs", .lst (sg.map .str)), ("script", dScr xs)]) :: (L + 5, P.cell (some (dGram X (mkGram sg nm rs lv ex)))) :: (L + 4, P.cell none) :: (L + 3, P.cell (some (.lst (nd.map .str)))) :: (L + 2, P.cell (some (.lst ((hvL sg rs).map .str)))) :: (L + 1, P.cell (some (.ptr p))) :: (p, penP τ) :: (276, P.raw (tabObj #[])) :: H) (Ret (.bool true) ((276, P.tab) :: H)) := by
  cases hu : ubB (mkGram sg nm rs lv ex) 0 with
  | false =>
    have hb : true = !(hvL sg rs).contains s := by rw [← h.ub0 (ex := ex) e, hu]; rfl
    have hor : ∀ qual m K, (L + 5, P.cell (some (dGram X (mkGram sg nm rs lv ex)))) ∈ (L, P.ns m) :: K → Fn X A (.ref 274) [.lam lamE qual [("grammar", L + 5)]] ((L, P.ns m) :: K) .none ((L, P.ns m) :: K) := fun qual m K hm => w_ornone_x (n := n) hA hm h.ok h.pos hu h.start h.named (fo m K)
    apply ex_assign
    rfl
    apply call1
    rfl
    rfl
    rfl
    exact ev_global rfl rfl rfl
    first | exact .inl ⟨_, rfl⟩ | exact .inr (.inl ⟨_, rfl⟩) | exact .inr (.inr (by kernel_rfl))
    apply ev_lam (clos := [("grammar", L + 5)]) hX rfl rfl rfl rfl rfl
    first | exact .head _ | exact .tail _ (.head _) | exact .tail _ (.tail _ (.head _)) | exact .tail _ (.tail _ (.tail _ (.head _))) | exact .tail _ (.tail _ (.tail _ (.tail _ (.head _)))) | exact .tail _ (.tail _ (.tail _ (.tail _ (.tail _ (.head _))))) | exact .tail _ (.tail _ (.tail _ (.tail _ (.tail _ (.tail _ (.head _)))))) | exact .tail _ (.tail _ (.tail _ (.tail _ (.tail _ (.tail _ (.tail _ (.head _))))))) | exact .tail _ (.tail _ (.tail _ (.tail _ (.tail _ (.tail _ (.tail _ (.tail _ (.head _))))))))
    first | exact Up.head | exact Up.tail (Up.head) | exact Up.tail (Up.tail (Up.head)) | exact Up.tail (Up.tail (Up.tail (Up.head))) | exact Up.tail (Up.tail (Up.tail (Up.tail (Up.head)))) | exact Up.tail (Up.tail (Up.tail (Up.tail (Up.tail (Up.head))))) | exact Up.tail (Up.tail (Up.tail (Up.tail (Up.tail (Up.tail (Up.head)))))) | exact Up.tail (Up.tail (Up.tail (Up.tail (Up.tail (Up.tail (Up.tail (Up.head))))))) | exact Up.tail (Up.tail (Up.tail (Up.tail (Up.tail (Up.tail (Up.tail (Up.tail (Up.head))))))))
    refine (hor _ _ _ ?_).call
    first | exact .head _ | exact .tail _ (.head _) | exact .tail _ (.tail _ (.head _)) | exact .tail _ (.tail _ (.tail _ (.head _))) | exact .tail _ (.tail _ (.tail _ (.tail _ (.head _)))) | exact .tail _ (.tail _ (.tail _ (.tail _ (.tail _ (.head _))))) | exact .tail _ (.tail _ (.tail _ (.tail _ (.tail _ (.tail _ (.head _)))))) | exact .tail _ (.tail _ (.tail _ (.tail _ (.tail _ (.tail _ (.tail _ (.head _))))))) | exact .tail _ (.tail _ (.tail _ (.tail _ (.tail _ (.tail _ (.tail _ (.tail _ (.head _))))))))
    exact bnd_local rfl (.head _) Up.head
    rfl
    exact law_D hA h e hsn hnd hns (b := true) (fun K => op_is (v := .none)) hb (law_E0 fun K => op_is (v := .none))
  | true =>
    have hw := h.hw e hu
    have h1 := h.sub e hsn hw
    have hb : false = !(hvL sg rs).contains s := by rw [← h.ub0 (ex := ex) e, hu]; rfl
    have hor : ∀ qual K, (L + 5, P.cell (some (dGram X (mkGram sg nm rs lv ex)))) ∈ K → Fn X A (.ref 274) [.lam lamE qual [("grammar", L + 5)]] K (dGram X (mkGram sg (nm1 sg nm rs) (ks sg rs) lv ex)) K := fun qual K hm => by
      have hr := red_eq (lv := lv) (ex := ex) h.S e hsn hw
      have := w_ornone_ok (n := n) (qual := qual) hA hm h.ok h.pos hu (by rw [hr]; exact h1.ok) h.start
      rwa [hr] at this
    apply ex_assign
    rfl
    apply call1
    rfl
    rfl
    rfl
    exact ev_global rfl rfl rfl
    first | exact .inl ⟨_, rfl⟩ | exact .inr (.inl ⟨_, rfl⟩) | exact .inr (.inr (by kernel_rfl))
    apply ev_lam (clos := [("grammar", L + 5)]) hX rfl rfl rfl rfl rfl
    first | exact .head _ | exact .tail _ (.head _) | exact .tail _ (.tail _ (.head _)) | exact .tail _ (.tail _ (.tail _ (.head _))) | exact .tail _ (.tail _ (.tail _ (.tail _ (.head _)))) | exact .tail _ (.tail _ (.tail _ (.tail _ (.tail _ (.head _))))) | exact .tail _ (.tail _ (.tail _ (.tail _ (.tail _ (.tail _ (.head _)))))) | exact .tail _ (.tail _ (.tail _ (.tail _ (.tail _ (.tail _ (.tail _ (.head _))))))) | exact .tail _ (.tail _ (.tail _ (.tail _ (.tail _ (.tail _ (.tail _ (.tail _ (.head _))))))))
    first | exact Up.head | exact Up.tail (Up.head) | exact Up.tail (Up.tail (Up.head)) | exact Up.tail (Up.tail (Up.tail (Up.head))) | exact Up.tail (Up.tail (Up.tail (Up.tail (Up.head)))) | exact Up.tail (Up.tail (Up.tail (Up.tail (Up.tail (Up.head))))) | exact Up.tail (Up.tail (Up.tail (Up.tail (Up.tail (Up.tail (Up.head)))))) | exact Up.tail (Up.tail (Up.tail (Up.tail (Up.tail (Up.tail (Up.tail (Up.head))))))) | exact Up.tail (Up.tail (Up.tail (Up.tail (Up.tail (Up.tail (Up.tail (Up.tail (Up.head))))))))
    refine (hor _ _ ?_).call
    first | exact .head _ | exact .tail _ (.head _) | exact .tail _ (.tail _ (.head _)) | exact .tail _ (.tail _ (.tail _ (.head _))) | exact .tail _ (.tail _ (.tail _ (.tail _ (.head _)))) | exact .tail _ (.tail _ (.tail _ (.tail _ (.tail _ (.head _))))) | exact .tail _ (.tail _ (.tail _ (.tail _ (.tail _ (.tail _ (.head _)))))) | exact .tail _ (.tail _ (.tail _ (.tail _ (.tail _ (.tail _ (.tail _ (.head _))))))) | exact .tail _ (.tail _ (.tail _ (.tail _ (.tail _ (.tail _ (.tail _ (.tail _ (.head _))))))))
    exact bnd_local rfl (.head _) Up.head
    rfl
    exact law_D hA h e hsn hnd hns (b := false) (fun K => op_isObj) hb (law_E1 hA h e hsn hw hnd hns rfl)
theorem law_B (hX : LamOk X) (hA : Rm A (n + 8)) (fo : ∀ m K, FrOk A ((L, P.ns m) :: K) [envW L]) (h : AllOk sg nm rs lv) : Ex X A (execs bodyW.tail.tail.tail.tail.tail.tail (envW L)) ((L, P.ns [("expect", dOI ex), ("levels", .dct X.w (lv.map lvK) (lv.map lvD)), ("rows", .lst (rs.map dRow)), ("names", .lst (nm.map .str)), ("signs", .lst (sg.map .str)), ("script", dScr xs)]) :: (L + 5, P.cell none) :: (L + 4, P.cell none) :: (L + 3, P.cell none) :: (L + 2, P.cell none) :: (L + 1, P.cell (some (.ptr p))) :: (p, penP τ) :: (276, P.raw (tabObj #[])) :: H) (Ret (.bool true) ((276, P.tab) :: H)) := by
  obtain ⟨s, rest, hsn, e⟩ := h.S.hd
  have hho : SOk (hvL sg rs) := hav_ok h.ro h.ss _
  apply ex_assign
  rfl
  apply ev_call
  rfl
  exact ev_global rfl rfl rfl
  first | exact .inl ⟨_, rfl⟩ | exact .inr (.inl ⟨_, rfl⟩) | exact .inr (.inr (by kernel_rfl))
  apply as_cons
  rfl
  rfl
  exact ev_local rfl rfl rfl
  apply as_cons
  rfl
  rfl
  exact ev_local rfl rfl rfl
  apply as_cons
  rfl
  rfl
  exact ev_local rfl rfl rfl
  apply as_cons
  rfl
  rfl
  exact ev_local rfl rfl rfl
  apply as_cons
  rfl
  rfl
  exact ev_local rfl rfl rfl
  exact as_nil
  exact (w_grammar (n := n + 5) hA h.go).call
  apply bnd_cell
  rfl
  rfl
  first | exact .head _ | exact .tail _ (.head _) | exact .tail _ (.tail _ (.head _)) | exact .tail _ (.tail _ (.tail _ (.head _))) | exact .tail _ (.tail _ (.tail _ (.tail _ (.head _)))) | exact .tail _ (.tail _ (.tail _ (.tail _ (.tail _ (.head _))))) | exact .tail _ (.tail _ (.tail _ (.tail _ (.tail _ (.tail _ (.head _)))))) | exact .tail _ (.tail _ (.tail _ (.tail _ (.tail _ (.tail _ (.tail _ (.head _))))))) | exact .tail _ (.tail _ (.tail _ (.tail _ (.tail _ (.tail _ (.tail _ (.tail _ (.head _))))))))
  first | exact Up.head | exact Up.tail (Up.head) | exact Up.tail (Up.tail (Up.head)) | exact Up.tail (Up.tail (Up.tail (Up.head))) | exact Up.tail (Up.tail (Up.tail (Up.tail (Up.head)))) | exact Up.tail (Up.tail (Up.tail (Up.tail (Up.tail (Up.head))))) | exact Up.tail (Up.tail (Up.tail (Up.tail (Up.tail (Up.tail (Up.head)))))) | exact Up.tail (Up.tail (Up.tail (Up.tail (Up.tail (Up.tail (Up.tail (Up.head))))))) | exact Up.tail (Up.tail (Up.tail (Up.tail (Up.tail (Up.tail (Up.tail (Up.tail (Up.head))))))))
  rfl
  apply ex_assign
  rfl
  apply call1
  rfl
  rfl
  rfl
  exact ev_global rfl rfl rfl
  first | exact .inl ⟨_, rfl⟩ | exact .inr (.inl ⟨_, rfl⟩) | exact .inr (.inr (by kernel_rfl))
  apply ev_cell
  rfl
  rfl
  rfl
  first | exact .head _ | exact .tail _ (.head _) | exact .tail _ (.tail _ (.head _)) | exact .tail _ (.tail _ (.tail _ (.head _))) | exact .tail _ (.tail _ (.tail _ (.tail _ (.head _)))) | exact .tail _ (.tail _ (.tail _ (.tail _ (.tail _ (.head _))))) | exact .tail _ (.tail _ (.tail _ (.tail _ (.tail _ (.tail _ (.head _)))))) | exact .tail _ (.tail _ (.tail _ (.tail _ (.tail _ (.tail _ (.tail _ (.head _))))))) | exact .tail _ (.tail _ (.tail _ (.tail _ (.tail _ (.tail _ (.tail _ (.tail _ (.head _))))))))
  exact (w_toldAll (n := n + 5) hA h.ok h.own).call
  exact bnd_local rfl (.head _) Up.head
  rfl
  apply ex_assign
  rfl
  apply ev_call
  rfl
  exact ev_global rfl rfl rfl
  first | exact .inl ⟨_, rfl⟩ | exact .inr (.inl ⟨_, rfl⟩) | exact .inr (.inr (by kernel_rfl))
  apply as_cons
  rfl
  rfl
  exact ev_local rfl rfl rfl
  apply as_cons
  rfl
  rfl
  exact ev_local rfl rfl rfl
  exact as_nil
  exact (w_having (n := n + 7) hA h.ss (Nat.le_trans h.sz (by decide)) h.ro).call
  apply bnd_cell
  rfl
  rfl
  first | exact .head _ | exact .tail _ (.head _) | exact .tail _ (.tail _ (.head _)) | exact .tail _ (.tail _ (.tail _ (.head _))) | exact .tail _ (.tail _ (.tail _ (.tail _ (.head _)))) | exact .tail _ (.tail _ (.tail _ (.tail _ (.tail _ (.head _))))) | exact .tail _ (.tail _ (.tail _ (.tail _ (.tail _ (.tail _ (.head _)))))) | exact .tail _ (.tail _ (.tail _ (.tail _ (.tail _ (.tail _ (.tail _ (.head _))))))) | exact .tail _ (.tail _ (.tail _ (.tail _ (.tail _ (.tail _ (.tail _ (.tail _ (.head _))))))))
  first | exact Up.head | exact Up.tail (Up.head) | exact Up.tail (Up.tail (Up.head)) | exact Up.tail (Up.tail (Up.tail (Up.head))) | exact Up.tail (Up.tail (Up.tail (Up.tail (Up.head)))) | exact Up.tail (Up.tail (Up.tail (Up.tail (Up.tail (Up.head))))) | exact Up.tail (Up.tail (Up.tail (Up.tail (Up.tail (Up.tail (Up.head)))))) | exact Up.tail (Up.tail (Up.tail (Up.tail (Up.tail (Up.tail (Up.tail (Up.head))))))) | exact Up.tail (Up.tail (Up.tail (Up.tail (Up.tail (Up.tail (Up.tail (Up.tail (Up.head))))))))
  rfl
  refine ex_assignQ (Q := fun d K => (∃ nd : List Str, d = .lst (nd.map .str) ∧ K = (L, P.ns [("before", dToldAll (mkGram sg nm rs lv ex) X), ("expect", dOI ex), ("levels", .dct X.w (lv.map lvK) (lv.map lvD)), ("rows", .lst (rs.map dRow)), ("names", .lst (nm.map .str)), ("signs", .lst (sg.map .str)), ("script", dScr xs)]) :: (L + 5, P.cell (some (dGram X (mkGram sg nm rs lv ex)))) :: (L + 4, P.cell none) :: (L + 3, P.cell none) :: (L + 2, P.cell (some (.lst ((hvL sg rs).map .str)))) :: (L + 1, P.cell (some (.ptr p))) :: (p, penP τ) :: (276, P.raw (tabObj #[])) :: H ∧ nd.length ≤ 5000 ∧ SOk nd ∧ ∀ x, x ∈ nd ↔ NReach rs (hvL sg rs) x)) rfl (evq_call rfl (ev_global rfl rfl rfl) ?_ ?_ (w_needed (n := n + 7) hA hho h.ro).call) rfl ?_
  · first | exact .inl ⟨_, rfl⟩ | exact .inr (.inl ⟨_, rfl⟩) | exact .inr (.inr (by kernel_rfl))
  · apply as_cons
    rfl
    rfl
    exact ev_local rfl rfl rfl
    apply as_cons
    rfl
    rfl
    apply ev_cell
    rfl
    rfl
    rfl
    first | exact .head _ | exact .tail _ (.head _) | exact .tail _ (.tail _ (.head _)) | exact .tail _ (.tail _ (.tail _ (.head _))) | exact .tail _ (.tail _ (.tail _ (.tail _ (.head _)))) | exact .tail _ (.tail _ (.tail _ (.tail _ (.tail _ (.head _))))) | exact .tail _ (.tail _ (.tail _ (.tail _ (.tail _ (.tail _ (.head _)))))) | exact .tail _ (.tail _ (.tail _ (.tail _ (.tail _ (.tail _ (.tail _ (.head _))))))) | exact .tail _ (.tail _ (.tail _ (.tail _ (.tail _ (.tail _ (.tail _ (.tail _ (.head _))))))))
    exact as_nil
  · rintro d K ⟨nd, rfl, rfl, hz, hns, hi⟩
    refine ⟨(L, P.ns [("before", dToldAll (mkGram sg nm rs lv ex) X), ("expect", dOI ex), ("levels", .dct X.w (lv.map lvK) (lv.map lvD)), ("rows", .lst (rs.map dRow)), ("names", .lst (nm.map .str)), ("signs", .lst (sg.map .str)), ("script", dScr xs)]) :: (L + 5, P.cell (some (dGram X (mkGram sg nm rs lv ex)))) :: (L + 4, P.cell none) :: (L + 3, P.cell (some (.lst (nd.map .str)))) :: (L + 2, P.cell (some (.lst ((hvL sg rs).map .str)))) :: (L + 1, P.cell (some (.ptr p))) :: (p, penP τ) :: (276, P.raw (tabObj #[])) :: H, ?_, law_C hX hA fo h e hsn (fun x => nd_nB hi) hns⟩
    apply bnd_cell
    rfl
    rfl
    first | exact .head _ | exact .tail _ (.head _) | exact .tail _ (.tail _ (.head _)) | exact .tail _ (.tail _ (.tail _ (.head _))) | exact .tail _ (.tail _ (.tail _ (.tail _ (.head _)))) | exact .tail _ (.tail _ (.tail _ (.tail _ (.tail _ (.head _))))) | exact .tail _ (.tail _ (.tail _ (.tail _ (.tail _ (.tail _ (.head _)))))) | exact .tail _ (.tail _ (.tail _ (.tail _ (.tail _ (.tail _ (.tail _ (.head _))))))) | exact .tail _ (.tail _ (.tail _ (.tail _ (.tail _ (.tail _ (.tail _ (.tail _ (.head _))))))))
    first | exact Up.head | exact Up.tail (Up.head) | exact Up.tail (Up.tail (Up.head)) | exact Up.tail (Up.tail (Up.tail (Up.head))) | exact Up.tail (Up.tail (Up.tail (Up.tail (Up.head)))) | exact Up.tail (Up.tail (Up.tail (Up.tail (Up.tail (Up.head))))) | exact Up.tail (Up.tail (Up.tail (Up.tail (Up.tail (Up.tail (Up.head)))))) | exact Up.tail (Up.tail (Up.tail (Up.tail (Up.tail (Up.tail (Up.tail (Up.head))))))) | exact Up.tail (Up.tail (Up.tail (Up.tail (Up.tail (Up.tail (Up.tail (Up.tail (Up.head))))))))
end
end Mine
namespace Mine
noncomputable def LvI (lv : List (Int × Int × Str)) : Prop := lv.map lvK = (List.range lv.length).map (fun i : Nat => (3 : Int) + (i : Int)) ∧ ∀ q ∈ lv, PyData.strOk q.2.2 = true
theorem LvI.nil : LvI [] := ⟨rfl, fun _ h => nomatch h⟩
theorem LvI.snoc {lv : List (Int × Int × Str)} (h : LvI lv) {q : Int × Int × Str} (e : q.1 = 3 + (lv.length : Int)) (ho : PyData.strOk q.2.2 = true) : LvI (lv ++ [q]) := by
  refine ⟨?_, fun x hx => ?_⟩
  · rw [List.map_append, h.1, List.length_append, List.length_singleton, List.range_succ, List.map_append]
    show _ ++ [q.1] = _
    rw [e]; rfl
  · rcases List.mem_append.mp hx with hx | hx
    · exact h.2 x hx
    · cases List.mem_singleton.mp hx; exact ho
theorem LvI.pw {lv : List (Int × Int × Str)} (h : LvI lv) : (lv.map lvK).Pairwise (· < ·) := by
  rw [h.1, List.pairwise_map]
  exact List.pairwise_lt_range.imp fun h => by omega
noncomputable abbrev lvNames : List Str := ["left", "right", "none", "precedence"]
theorem lvNames_ok : SOk lvNames := by unfold SOk; decide +kernel
noncomputable def lvP (q : Int × Int × Str) : D := pairD (lvK q, lvD q)
section
variable {X : Cx} {A : Around} {H H₀ : Hs} {n : Nat} {L p : Addr} {τ : Int × Int} {xs : List Int} {sg nm nd : List Str} {rs rest : List RowD} {lv : List (Int × Int × Str)} {ex : Option Int} {s : Str} {sv : D} {b : Bool}
theorem cd_lv (hh : A.handled = none) (h : LvI lv) (hz : lv.length ≤ 8) : CallD X A (.type "dict") [.lst (lv.map lvP)] H (.dct X.w (lv.map lvK) (lv.map lvD)) H := by
  have e1 : lv.map lvP = (lv.map fun q => (lvK q, lvD q)).map pairD := by rw [List.map_map]; rfl
  have e2 : lv.map lvK = (lv.map fun q => (lvK q, lvD q)).map (·.1) := by rw [List.map_map]; rfl
  have e3 : lv.map lvD = (lv.map fun q => (lvK q, lvD q)).map (·.2) := by rw [List.map_map]; rfl
  rw [e1, e2, e3]
  exact cd_dictP hh (by rw [← e2]; exact h.pw.imp fun h => Int.ne_of_lt h) (by rw [List.length_map]; exact Nat.le_trans hz (by decide))
set_option maxHeartbeats 4000000 in
theorem law_A3 (hX : LamOk X) (hA : Rm A (n + 8)) (fo : ∀ m K, FrOk A ((L, P.ns m) :: K) [envW L]) {i j : Nat} (hi : i < 2) (hj : j < 4) (hsg : sg = sgAll.take (5 + i)) (hnm : nm = nmAll.take (2 + j)) : Ex X A (execs bodyW.tail.tail.tail (envW L)) ((L, P.ns [("names", .lst (nm.map .str)), ("signs", .lst (sg.map .str)), ("script", dScr xs)]) :: (L + 5, P.cell none) :: (L + 4, P.cell none) :: (L + 3, P.cell none) :: (L + 2, P.cell none) :: (L + 1, P.cell (some (.ptr p))) :: (p, penP τ) :: (276, P.raw (tabObj #[])) :: H) (Ret (.bool true) ((276, P.tab) :: H)) := by
  have hsl : sg.length ≤ 6 := by rw [hsg]; exact Nat.le_trans (List.length_take_le' _ _) (Nat.le_of_ble_eq_true rfl)
  have hsl5 : 5 ≤ sg.length := by rw [hsg, List.length_take]; exact Nat.le_min.mpr ⟨Nat.le_add_right _ _, Nat.le_of_ble_eq_true rfl⟩
  have hnl : nm.length ≤ 5 := by rw [hnm]; exact Nat.le_trans (List.length_take_le' _ _) (Nat.le_of_ble_eq_true rfl)
  have hn0 : 0 < nm.length := by rw [hnm, List.length_take]; exact Nat.lt_min.mpr ⟨by omega, Nat.le_of_ble_eq_true rfl⟩
  refine ex_assignQ (Q := fun d K => ∃ rs υ, d = .lst (rs.map dRow) ∧ K = (L, P.ns [("names", .lst (nm.map .str)), ("signs", .lst (sg.map .str)), ("script", dScr xs)]) :: (L + 5, P.cell none) :: (L + 4, P.cell none) :: (L + 3, P.cell none) :: (L + 2, P.cell none) :: (L + 1, P.cell (some (.ptr p))) :: (p, penP υ) :: (276, P.raw (tabObj #[])) :: H ∧ RowsOk ((sg.drop 1).take 1 ++ sg.drop 3) nm rs) rfl (evq_call (H₂ := (L, P.ns [("names", .lst (nm.map .str)), ("signs", .lst (sg.map .str)), ("script", dScr xs)]) :: (L + 5, P.cell none) :: (L + 4, P.cell none) :: (L + 3, P.cell none) :: (L + 2, P.cell none) :: (L + 1, P.cell (some (.ptr p))) :: (p, penP τ) :: (276, P.raw (tabObj #[])) :: H) rfl (ev_global rfl rfl rfl) ?_ ?_ (CallQ.perm (H := (p, penP τ) :: (L, P.ns [("names", .lst (nm.map .str)), ("signs", .lst (sg.map .str)), ("script", dScr xs)]) :: (L + 5, P.cell none) :: (L + 4, P.cell none) :: (L + 3, P.cell none) :: (L + 2, P.cell none) :: (L + 1, P.cell (some (.ptr p))) :: (276, P.raw (tabObj #[])) :: H) (Pull.perm ?_) (w_rows (n := n + 5) (sg := ((sg.drop 1).take 1 ++ sg.drop 3)) hA ?_ ?_ hn0).call ?_)) rfl ?_
  · first | exact .inl ⟨_, rfl⟩ | exact .inr (.inl ⟨_, rfl⟩) | exact .inr (.inr (by kernel_rfl))
  · apply as_cons
    rfl
    rfl
    apply ev_cell
    rfl
    rfl
    rfl
    first | exact .head _ | exact .tail _ (.head _) | exact .tail _ (.tail _ (.head _)) | exact .tail _ (.tail _ (.tail _ (.head _))) | exact .tail _ (.tail _ (.tail _ (.tail _ (.head _)))) | exact .tail _ (.tail _ (.tail _ (.tail _ (.tail _ (.head _))))) | exact .tail _ (.tail _ (.tail _ (.tail _ (.tail _ (.tail _ (.head _)))))) | exact .tail _ (.tail _ (.tail _ (.tail _ (.tail _ (.tail _ (.tail _ (.head _))))))) | exact .tail _ (.tail _ (.tail _ (.tail _ (.tail _ (.tail _ (.tail _ (.tail _ (.head _))))))))
    apply as_cons
    rfl
    rfl
    apply fun h => Ev.as (d := .lst (((sg.map D.str).drop 1).take (2 - 1) ++ (sg.map D.str).drop 3)) h (show _ = D.lst (((sg.drop 1).take 1 ++ sg.drop 3).map .str) by rw [List.map_append, List.map_take, List.map_drop, List.map_drop])
    apply New.ev
    apply binop_new
    rfl
    apply New.ev
    apply new_sliceLU (lo := 1) (hi := 2)
    rfl
    exact ev_local rfl rfl rfl
    exact ev_int rfl
    exact ev_int rfl
    exact sq
    exact (by rw [List.length_map]; exact sz64 (by omega))
    exact fun F vs r => pick_run 1 2 (by decide) (by rw [List.length_map]; omega) vs r
    apply New.ev
    apply new_sliceL (lo := 3)
    rfl
    exact ev_local rfl rfl rfl
    exact ev_int rfl
    exact sq
    exact (by rw [List.length_map]; exact sz64 (by omega))
    exact fun F vs r => pick_from 3 vs r
    exact add_lists sq sq (by rw [List.length_take, List.length_drop, List.length_drop, List.length_map]; exact sz64 (by omega))
    apply as_cons
    rfl
    rfl
    exact ev_local rfl rfl rfl
    exact as_nil
  · repeat (first | apply Pull.head | apply Pull.tail)
  · rw [List.length_append, List.length_take, List.length_drop, List.length_drop]; omega
  · omega
  · rintro d K ⟨rs, υ, rfl, rfl, hro⟩
    exact ⟨(L, P.ns [("names", .lst (nm.map .str)), ("signs", .lst (sg.map .str)), ("script", dScr xs)]) :: (L + 5, P.cell none) :: (L + 4, P.cell none) :: (L + 3, P.cell none) :: (L + 2, P.cell none) :: (L + 1, P.cell (some (.ptr p))) :: (p, penP υ) :: (276, P.raw (tabObj #[])) :: H, (Pull.perm (H' := (L, P.ns [("names", .lst (nm.map .str)), ("signs", .lst (sg.map .str)), ("script", dScr xs)]) :: (L + 5, P.cell none) :: (L + 4, P.cell none) :: (L + 3, P.cell none) :: (L + 2, P.cell none) :: (L + 1, P.cell (some (.ptr p))) :: (276, P.raw (tabObj #[])) :: H) (by repeat (first | apply Pull.head | apply Pull.tail))).symm, rs, υ, rfl, rfl, hro⟩
  · rintro d K ⟨rs, υ, rfl, rfl, hro⟩
    refine ⟨_, bnd_local rfl (.head _) Up.head, ?_⟩
    refine ex_assignQ (Q := fun d K => ∃ (lv : List (Int × Int × Str)) (ω : Int × Int), lv.length ≤ 8 ∧ LvI lv ∧ d = .dct X.w (lv.map lvK) (lv.map lvD) ∧ K = (L, P.ns [("rows", .lst (rs.map dRow)), ("names", .lst (nm.map .str)), ("signs", .lst (sg.map .str)), ("script", dScr xs)]) :: (L + 5, P.cell none) :: (L + 4, P.cell none) :: (L + 3, P.cell none) :: (L + 2, P.cell none) :: (L + 1, P.cell (some (.ptr p))) :: (p, penP ω) :: (276, P.raw (tabObj #[])) :: H) rfl (evq_call1 (Q₁ := fun d K => ∃ (lv : List (Int × Int × Str)) (ω : Int × Int), lv.length ≤ 8 ∧ LvI lv ∧ d = .lst (lv.map lvP) ∧ K = (L, P.ns [("rows", .lst (rs.map dRow)), ("names", .lst (nm.map .str)), ("signs", .lst (sg.map .str)), ("script", dScr xs)]) :: (L + 5, P.cell none) :: (L + 4, P.cell none) :: (L + 3, P.cell none) :: (L + 2, P.cell none) :: (L + 1, P.cell (some (.ptr p))) :: (p, penP ω) :: (276, P.raw (tabObj #[])) :: H) rfl rfl rfl (ev_builtin rfl rfl rfl boot_dict) (.inr (.inl ⟨_, rfl⟩)) ?_ ?_) rfl ?_
    · refine evq_comp (H₁ := (L, P.ns [("rows", .lst (rs.map dRow)), ("names", .lst (nm.map .str)), ("signs", .lst (sg.map .str)), ("script", dScr xs)]) :: (L + 5, P.cell none) :: (L + 4, P.cell none) :: (L + 3, P.cell none) :: (L + 2, P.cell none) :: (L + 1, P.cell (some (.ptr p))) :: (p, penP (nxt 3 υ)) :: (276, P.raw (tabObj #[])) :: H) (Z := []) (ifs := []) (items := upFrom 0 (dig 3 υ)) (fun i ds K => ∃ (lv : List (Int × Int × Str)) (ω : Int × Int), lv.length = i ∧ LvI lv ∧ ds = lv.map lvP ∧ K = (L, P.ns [("rows", .lst (rs.map dRow)), ("names", .lst (nm.map .str)), ("signs", .lst (sg.map .str)), ("script", dScr xs)]) :: (L + 5, P.cell none) :: (L + 4, P.cell none) :: (L + 3, P.cell none) :: (L + 2, P.cell none) :: (L + 1, P.cell (some (.ptr p))) :: (p, penP ω) :: (276, P.raw (tabObj #[])) :: H) rfl ⟨rfl, rfl, rfl, rfl, fun _ => rfl⟩ (srcE (d := .rng 0 (dig 3 υ)) ?_ (src_range0 hA.hh (fun _ _ => rfl) ?_)) ?_ ⟨[], _, rfl, .nil, rfl, rfl⟩ (fun C T j' ds K d hJ hd => ?_) (fun ds K hJ => ?_)
      · apply call1
        rfl
        rfl
        rfl
        exact ev_builtin rfl rfl rfl boot_range
        first | exact .inl ⟨_, rfl⟩ | exact .inr (.inl ⟨_, rfl⟩) | exact .inr (.inr (by kernel_rfl))
        apply ev_call
        rfl
        exact ev_global rfl rfl rfl
        first | exact .inl ⟨_, rfl⟩ | exact .inr (.inl ⟨_, rfl⟩) | exact .inr (.inr (by kernel_rfl))
        apply as_cons
        rfl
        rfl
        apply ev_cell
        rfl
        rfl
        rfl
        first | exact .head _ | exact .tail _ (.head _) | exact .tail _ (.tail _ (.head _)) | exact .tail _ (.tail _ (.tail _ (.head _))) | exact .tail _ (.tail _ (.tail _ (.tail _ (.head _)))) | exact .tail _ (.tail _ (.tail _ (.tail _ (.tail _ (.head _))))) | exact .tail _ (.tail _ (.tail _ (.tail _ (.tail _ (.tail _ (.head _)))))) | exact .tail _ (.tail _ (.tail _ (.tail _ (.tail _ (.tail _ (.tail _ (.head _))))))) | exact .tail _ (.tail _ (.tail _ (.tail _ (.tail _ (.tail _ (.tail _ (.tail _ (.head _))))))))
        apply as_cons
        rfl
        rfl
        exact ev_int rfl
        exact as_nil
        apply CallD.at (a := p)
        repeat (first | apply At.head | apply At.tail)
        exact fun H => w_draw (m := 3) (n := n + 7) hA (by decide) (by decide)
        exact cd_range
      · have := dig_lt (m := 3) (σ := υ) (by decide)
        omega
      · have := dig_lt (m := 3) (σ := υ) (by decide)
        rw [upFrom_len]
        exact sz64 (by omega)
      · obtain ⟨lv, ω, hl, hI, rfl, rfl⟩ := hJ
        obtain ⟨hj2, rfl⟩ := upFrom_get hd
        refine (turn_all (m := [("at", D.int (0 + (j' : Int)))]) (m' := [("at", D.int (0 + (j' : Int)))]) (K := (L, P.ns [("rows", .lst (rs.map dRow)), ("names", .lst (nm.map .str)), ("signs", .lst (sg.map .str)), ("script", dScr xs)]) :: (L + 5, P.cell none) :: (L + 4, P.cell none) :: (L + 3, P.cell none) :: (L + 2, P.cell none) :: (L + 1, P.cell (some (.ptr p))) :: (p, penP (nxt lvNames.length (nxt 3 ω))) :: (276, P.raw (tabObj #[])) :: H) (e := lvP (3 + (0 + (j' : Int)), 1 + (dig 3 ω : Int), pickA lvNames (nxt 3 ω))) (Bnd.asg rfl (bnd_local rfl (.head _) Up.head)) ?_).weak ?_
        · apply ev_tup
          rfl
          apply as_cons
          rfl
          rfl
          apply ev_bin
          rfl
          exact ev_int rfl
          exact ev_local rfl rfl rfl
          exact op_add
          apply as_cons
          rfl
          rfl
          apply ev_tup
          rfl
          apply as_cons
          rfl
          rfl
          apply ev_bin
          rfl
          exact ev_int rfl
          apply ev_call
          rfl
          exact ev_global rfl rfl rfl
          first | exact .inl ⟨_, rfl⟩ | exact .inr (.inl ⟨_, rfl⟩) | exact .inr (.inr (by kernel_rfl))
          apply as_cons
          rfl
          rfl
          apply ev_cell
          rfl
          rfl
          rfl
          first | exact .head _ | exact .tail _ (.head _) | exact .tail _ (.tail _ (.head _)) | exact .tail _ (.tail _ (.tail _ (.head _))) | exact .tail _ (.tail _ (.tail _ (.tail _ (.head _)))) | exact .tail _ (.tail _ (.tail _ (.tail _ (.tail _ (.head _))))) | exact .tail _ (.tail _ (.tail _ (.tail _ (.tail _ (.tail _ (.head _)))))) | exact .tail _ (.tail _ (.tail _ (.tail _ (.tail _ (.tail _ (.tail _ (.head _))))))) | exact .tail _ (.tail _ (.tail _ (.tail _ (.tail _ (.tail _ (.tail _ (.tail _ (.head _))))))))
          apply as_cons
          rfl
          rfl
          exact ev_int rfl
          exact as_nil
          apply CallD.at (a := p)
          repeat (first | apply At.head | apply At.tail)
          exact fun H => w_draw (m := 3) (n := n + 7) hA (by decide) (by decide)
          exact op_add
          apply as_cons
          rfl
          rfl
          apply ev_call
          rfl
          exact ev_global rfl rfl rfl
          first | exact .inl ⟨_, rfl⟩ | exact .inr (.inl ⟨_, rfl⟩) | exact .inr (.inr (by kernel_rfl))
          apply as_cons
          rfl
          rfl
          apply ev_cell
          rfl
          rfl
          rfl
          first | exact .head _ | exact .tail _ (.head _) | exact .tail _ (.tail _ (.head _)) | exact .tail _ (.tail _ (.tail _ (.head _))) | exact .tail _ (.tail _ (.tail _ (.tail _ (.head _)))) | exact .tail _ (.tail _ (.tail _ (.tail _ (.tail _ (.head _))))) | exact .tail _ (.tail _ (.tail _ (.tail _ (.tail _ (.tail _ (.head _)))))) | exact .tail _ (.tail _ (.tail _ (.tail _ (.tail _ (.tail _ (.tail _ (.head _))))))) | exact .tail _ (.tail _ (.tail _ (.tail _ (.tail _ (.tail _ (.tail _ (.tail _ (.head _))))))))
          apply as_cons
          rfl
          rfl
          apply New.ev
          apply new_list
          rfl
          apply as_cons
          rfl
          rfl
          exact ev_str rfl
          apply as_cons
          rfl
          rfl
          exact ev_str rfl
          apply as_cons
          rfl
          rfl
          exact ev_str rfl
          apply as_cons
          rfl
          rfl
          exact ev_str rfl
          exact as_nil
          rfl
          exact as_nil
          apply CallD.at (a := p)
          repeat (first | apply At.head | apply At.tail)
          exact fun H => w_pickA D.str lvNames (n := n + 6) hA rfl (by decide) (by decide)
          exact as_nil
          rfl
          exact as_nil
          rfl
        · rintro o K ⟨rfl, rfl⟩
          refine ⟨lv ++ [(3 + (0 + (j' : Int)), 1 + (dig 3 ω : Int), pickA lvNames (nxt 3 ω))], _, by rw [List.length_append, hl]; rfl, hI.snoc (by rw [hl, Int.zero_add]) (lvNames_ok _ (pickA_mem (by decide))), by rw [List.map_append]; rfl, rfl⟩
      · obtain ⟨lv, ω, hl, hI, rfl, rfl⟩ := hJ
        rw [upFrom_len] at hl
        have := dig_lt (m := 3) (σ := υ) (by decide)
        exact ⟨lv, ω, by omega, hI, rfl, rfl⟩
    · rintro d K ⟨lv, ω, hz, hI, rfl, rfl⟩
      exact (cd_lv hA.hh hI hz).q ⟨lv, ω, hz, hI, rfl, rfl⟩
    · rintro d K ⟨lv, ω, hz, hI, rfl, rfl⟩
      refine ⟨_, bnd_local rfl (.head _) Up.head, ?_⟩
      apply ex_assign
      rfl
      apply ev_call
      rfl
      exact ev_global rfl rfl rfl
      first | exact .inl ⟨_, rfl⟩ | exact .inr (.inl ⟨_, rfl⟩) | exact .inr (.inr (by kernel_rfl))
      apply as_cons
      rfl
      rfl
      apply ev_cell
      rfl
      rfl
      rfl
      first | exact .head _ | exact .tail _ (.head _) | exact .tail _ (.tail _ (.head _)) | exact .tail _ (.tail _ (.tail _ (.head _))) | exact .tail _ (.tail _ (.tail _ (.tail _ (.head _)))) | exact .tail _ (.tail _ (.tail _ (.tail _ (.tail _ (.head _))))) | exact .tail _ (.tail _ (.tail _ (.tail _ (.tail _ (.tail _ (.head _)))))) | exact .tail _ (.tail _ (.tail _ (.tail _ (.tail _ (.tail _ (.tail _ (.head _))))))) | exact .tail _ (.tail _ (.tail _ (.tail _ (.tail _ (.tail _ (.tail _ (.tail _ (.head _))))))))
      apply as_cons
      rfl
      rfl
      apply New.ev
      apply new_list
      rfl
      apply as_cons
      rfl
      rfl
      exact ev_none rfl
      apply as_cons
      rfl
      rfl
      exact ev_int rfl
      apply as_cons
      rfl
      rfl
      exact ev_int rfl
      exact as_nil
      rfl
      exact as_nil
      apply CallD.at (a := p)
      repeat (first | apply At.head | apply At.tail)
      exact fun H => w_pickA dOI [none, some 0, some 7] (n := n + 6) hA rfl (by decide) (by decide)
      exact bnd_local rfl (.head _) Up.head
      rfl
      exact law_B hX hA fo (AllOk.of hi hj hsg hnm hro hI.pw hz hI.2)
set_option maxHeartbeats 4000000 in
theorem law_A2 (hX : LamOk X) (hA : Rm A (n + 8)) (fo : ∀ m K, FrOk A ((L, P.ns m) :: K) [envW L]) {i : Nat} (hi : i < 2) (hsg : sg = sgAll.take (5 + i)) : Ex X A (execs bodyW.tail.tail (envW L)) ((L, P.ns [("signs", .lst (sg.map .str)), ("script", dScr xs)]) :: (L + 5, P.cell none) :: (L + 4, P.cell none) :: (L + 3, P.cell none) :: (L + 2, P.cell none) :: (L + 1, P.cell (some (.ptr p))) :: (p, penP τ) :: (276, P.raw (tabObj #[])) :: H) (Ret (.bool true) ((276, P.tab) :: H)) := by
  apply ex_assign
  rfl
  apply fun h => Ev.as h (show D.lst ((nmAll.map D.str).take (2 + dig 4 τ)) = D.lst ((nmAll.take (2 + dig 4 τ)).map D.str) from congrArg D.lst List.map_take.symm)
  apply New.ev
  apply new_sliceU (hi := ((2 + dig 4 τ : Nat) : Int))
  rfl
  apply New.ev
  apply new_list
  rfl
  apply as_cons
  rfl
  rfl
  exact ev_str rfl
  apply as_cons
  rfl
  rfl
  exact ev_str rfl
  apply as_cons
  rfl
  rfl
  exact ev_str rfl
  apply as_cons
  rfl
  rfl
  exact ev_str rfl
  apply as_cons
  rfl
  rfl
  exact ev_str rfl
  exact as_nil
  rfl
  apply ev_bin
  rfl
  exact ev_int rfl
  apply ev_call
  rfl
  exact ev_global rfl rfl rfl
  first | exact .inl ⟨_, rfl⟩ | exact .inr (.inl ⟨_, rfl⟩) | exact .inr (.inr (by kernel_rfl))
  apply as_cons
  rfl
  rfl
  apply ev_cell
  rfl
  rfl
  rfl
  first | exact .head _ | exact .tail _ (.head _) | exact .tail _ (.tail _ (.head _)) | exact .tail _ (.tail _ (.tail _ (.head _))) | exact .tail _ (.tail _ (.tail _ (.tail _ (.head _)))) | exact .tail _ (.tail _ (.tail _ (.tail _ (.tail _ (.head _))))) | exact .tail _ (.tail _ (.tail _ (.tail _ (.tail _ (.tail _ (.head _)))))) | exact .tail _ (.tail _ (.tail _ (.tail _ (.tail _ (.tail _ (.tail _ (.head _))))))) | exact .tail _ (.tail _ (.tail _ (.tail _ (.tail _ (.tail _ (.tail _ (.tail _ (.head _))))))))
  apply as_cons
  rfl
  rfl
  exact ev_int rfl
  exact as_nil
  apply CallD.at (a := p)
  repeat (first | apply At.head | apply At.tail)
  exact fun H => w_draw (m := 4) (n := n + 7) hA (by decide) (by decide)
  exact op_add
  exact sq
  exact Nat.le_of_ble_eq_true rfl
  exact fun F vs r => pick_upto (2 + dig 4 τ) vs r
  exact bnd_local rfl (.head _) Up.head
  rfl
  exact law_A3 hX hA fo hi (dig_lt (by decide)) hsg rfl
set_option maxHeartbeats 4000000 in
theorem law_A1 (hX : LamOk X) (hA : Rm A (n + 8)) (fo : ∀ m K, FrOk A ((L, P.ns m) :: K) [envW L]) : Ex X A (execs bodyW.tail (envW L)) ((L, P.ns [("script", dScr xs)]) :: (L + 5, P.cell none) :: (L + 4, P.cell none) :: (L + 3, P.cell none) :: (L + 2, P.cell none) :: (L + 1, P.cell (some (.ptr p))) :: (p, penP τ) :: (276, P.raw (tabObj #[])) :: H) (Ret (.bool true) ((276, P.tab) :: H)) := by
  apply ex_assign
  rfl
  apply fun h => Ev.as h (show D.lst ((sgAll.map D.str).take (5 + dig 2 τ)) = D.lst ((sgAll.take (5 + dig 2 τ)).map D.str) from congrArg D.lst List.map_take.symm)
  apply New.ev
  apply new_sliceU (hi := ((5 + dig 2 τ : Nat) : Int))
  rfl
  apply New.ev
  apply new_list
  rfl
  apply as_cons
  rfl
  rfl
  exact ev_str rfl
  apply as_cons
  rfl
  rfl
  exact ev_str rfl
  apply as_cons
  rfl
  rfl
  exact ev_str rfl
  apply as_cons
  rfl
  rfl
  exact ev_str rfl
  apply as_cons
  rfl
  rfl
  exact ev_str rfl
  apply as_cons
  rfl
  rfl
  exact ev_str rfl
  exact as_nil
  rfl
  apply ev_bin
  rfl
  exact ev_int rfl
  apply ev_call
  rfl
  exact ev_global rfl rfl rfl
  first | exact .inl ⟨_, rfl⟩ | exact .inr (.inl ⟨_, rfl⟩) | exact .inr (.inr (by kernel_rfl))
  apply as_cons
  rfl
  rfl
  apply ev_cell
  rfl
  rfl
  rfl
  first | exact .head _ | exact .tail _ (.head _) | exact .tail _ (.tail _ (.head _)) | exact .tail _ (.tail _ (.tail _ (.head _))) | exact .tail _ (.tail _ (.tail _ (.tail _ (.head _)))) | exact .tail _ (.tail _ (.tail _ (.tail _ (.tail _ (.head _))))) | exact .tail _ (.tail _ (.tail _ (.tail _ (.tail _ (.tail _ (.head _)))))) | exact .tail _ (.tail _ (.tail _ (.tail _ (.tail _ (.tail _ (.tail _ (.head _))))))) | exact .tail _ (.tail _ (.tail _ (.tail _ (.tail _ (.tail _ (.tail _ (.tail _ (.head _))))))))
  apply as_cons
  rfl
  rfl
  exact ev_int rfl
  exact as_nil
  apply CallD.at (a := p)
  repeat (first | apply At.head | apply At.tail)
  exact fun H => w_draw (m := 2) (n := n + 7) hA (by decide) (by decide)
  exact op_add
  exact sq
  exact Nat.le_of_ble_eq_true rfl
  exact fun F vs r => pick_upto (5 + dig 2 τ) vs r
  exact bnd_local rfl (.head _) Up.head
  rfl
  exact law_A2 hX hA fo (dig_lt (by decide)) rfl
set_option maxHeartbeats 4000000 in
theorem law_A (hX : LamOk X) (hA : Rm A (n + 8)) (fo : ∀ m K, FrOk A ((L, P.ns m) :: K) [envW L]) (hz : xs.length ≤ sizeLine) : Ex X A (execs bodyW (envW L)) ((L, P.ns [("script", dScr xs)]) :: (L + 5, P.cell none) :: (L + 4, P.cell none) :: (L + 3, P.cell none) :: (L + 2, P.cell none) :: (L + 1, P.cell none) :: (276, P.raw (tabObj #[])) :: H) (Ret (.bool true) ((276, P.tab) :: H)) := by
  refine ex_assignQ (Q := fun d K => ∃ p τ, d = .ptr p ∧ K = (p, penP τ) :: (L, P.ns [("script", dScr xs)]) :: (L + 5, P.cell none) :: (L + 4, P.cell none) :: (L + 3, P.cell none) :: (L + 2, P.cell none) :: (L + 1, P.cell none) :: (276, P.raw (tabObj #[])) :: H) rfl (evq_call rfl (ev_global rfl rfl rfl) ?_ ?_ (w_pen (n := n + 7) hA hz).call) rfl ?_
  · first | exact .inl ⟨_, rfl⟩ | exact .inr (.inl ⟨_, rfl⟩) | exact .inr (.inr (by kernel_rfl))
  · apply as_cons
    rfl
    rfl
    exact ev_local rfl rfl rfl
    exact as_nil
  · rintro d K ⟨p, τ, rfl, rfl⟩
    refine ⟨(p, penP τ) :: (L, P.ns [("script", dScr xs)]) :: (L + 5, P.cell none) :: (L + 4, P.cell none) :: (L + 3, P.cell none) :: (L + 2, P.cell none) :: (L + 1, P.cell (some (.ptr p))) :: (276, P.raw (tabObj #[])) :: H, ?_, Ex.step (Stp.perm (Pull.perm (H := (L, P.ns [("script", dScr xs)]) :: (L + 5, P.cell none) :: (L + 4, P.cell none) :: (L + 3, P.cell none) :: (L + 2, P.cell none) :: (L + 1, P.cell (some (.ptr p))) :: (p, penP τ) :: (276, P.raw (tabObj #[])) :: H) (by repeat (first | apply Pull.head | apply Pull.tail))).symm) ?_⟩
    · apply bnd_cell
      rfl
      rfl
      first | exact .head _ | exact .tail _ (.head _) | exact .tail _ (.tail _ (.head _)) | exact .tail _ (.tail _ (.tail _ (.head _))) | exact .tail _ (.tail _ (.tail _ (.tail _ (.head _)))) | exact .tail _ (.tail _ (.tail _ (.tail _ (.tail _ (.head _))))) | exact .tail _ (.tail _ (.tail _ (.tail _ (.tail _ (.tail _ (.head _)))))) | exact .tail _ (.tail _ (.tail _ (.tail _ (.tail _ (.tail _ (.tail _ (.head _))))))) | exact .tail _ (.tail _ (.tail _ (.tail _ (.tail _ (.tail _ (.tail _ (.tail _ (.head _))))))))
      first | exact Up.head | exact Up.tail (Up.head) | exact Up.tail (Up.tail (Up.head)) | exact Up.tail (Up.tail (Up.tail (Up.head))) | exact Up.tail (Up.tail (Up.tail (Up.tail (Up.head)))) | exact Up.tail (Up.tail (Up.tail (Up.tail (Up.tail (Up.head))))) | exact Up.tail (Up.tail (Up.tail (Up.tail (Up.tail (Up.tail (Up.head)))))) | exact Up.tail (Up.tail (Up.tail (Up.tail (Up.tail (Up.tail (Up.tail (Up.head))))))) | exact Up.tail (Up.tail (Up.tail (Up.tail (Up.tail (Up.tail (Up.tail (Up.tail (Up.head))))))))
    · exact law_A1 hX hA fo
set_option maxHeartbeats 4000000 in
theorem w_law (hX : LamOk X) (hA : Rm A (n + 9)) (hf : A.frames = some []) (hz : xs.length ≤ sizeLine) : Fn X A (.ref 279) [dScr xs] ((276, P.raw (tabObj #[])) :: H) (.bool true) ((276, P.tab) :: H) := by
  refine fn_inC (fd := fdLW) (c := 278) (ks := ["script"]) (cn := ["grammar", "kept", "needed", "having", "pen"]) (cs := fun n => [("grammar", n + 4), ("kept", n + 3), ("needed", n + 2), ("having", n + 1), ("pen", n)]) (ds := [dScr xs]) rfl rfl rfl rfl hA.lt rfl (fun _ => rfl) rfl rfl (fun _ => rfl) (fun _ => rfl) fun L => ?_
  have hB : Rm (A.deeper (envW L)) (n + 8) := hA.deeper
  exact law_A hX hB (fun m K => (FrOk.mk (H := []) hf fun env he => nomatch he).push rfl rfl (.head _) fun q hq => nomatch hq) hz
end
end Mine
namespace Mine
theorem codeHd278 {h : Heap} {w : World} (K : (Kx w.params).In h) : CodeHd h 278 276 :=
  ⟨_, _, _, _, _, _, _, _, _, K 278 _ rfl, rfl, rfl, rfl, rfl, rfl, rfl, rfl, rfl, by decide⟩
theorem noTabsK {w : World} : noTabs (Kx w.params) = true := by rfl
theorem rmCaller : Rm callerA 9 := ⟨rfl, by decide, by decide⟩
section
variable {w : World} {s₁ : Shared} {mg mb : Str → Option Value} {p : Program} {loose : List Str} {mean : ExcName → Option Value}
abbrev tabsW : List (Addr × Addr) := [(278, 276)]
theorem tabsAt (Y : myHook.says w s₁.heap) : TabsAt tabsW s₁.heap := fun q hq => by
  cases List.mem_singleton.mp hq
  exact ⟨codeHd278 Y.1, Y.2.2⟩
noncomputable def cxW (Y : myHook.says w s₁.heap) (T : Top p loose mean mg mb s₁.heap) : Cx where
  w := w
  hb := ghostOf s₁.heap tabsW
  os := s₁.os
  mg := mg
  mb := mb
  K := ghost_K (tabsAt Y) Y.1 noTabsK
  code := fun q hq => by
    obtain ⟨x, e, c, o, vs, t, e2, ho, hd, hv⟩ := Y.2.1 q hq
    refine ⟨x, e, c, o, vs, t, e2, ghost_get (tabsAt Y) ho fun k => ?_, hd, hv⟩
    rw [k] at hd
    cases hd
    cases hv
  g := ghost_ns (tabsAt Y) T.g
  b := ghost_ns (tabsAt Y) T.b
  bl := T.builtins
  lim := let ⟨mc, a, r⟩ := T.nolimit; ⟨mc, ghost_ns (tabsAt Y) a, r⟩
theorem lamOkW (Y : myHook.says w s₁.heap) (T : Top p loose mean mg mb s₁.heap) : LamOk (cxW Y T) where
  code := codeHd278 (cxW Y T).K
  bui := by
    obtain ⟨bm, ob, h1, h2, h3, h4, h5, h6⟩ := (ghost_top (tabsAt Y) T).bmain
    refine ⟨bm, ob, h1, h2, fun e => ?_, fun e => ?_, h3, h4, h5, h6⟩
    · have k := (cxW Y T).K 3 _ rfl
      subst e
      have h3' : (cxW Y T).hb.get? 3 = some ob := h3
      rw [k] at h3'
      cases h3'
      exact absurd h4 (by simp [dctO])
    · subst e
      have : (cxW Y T).hb.get? 276 = none := hideAll_none _ (.head _)
      have h3' : (cxW Y T).hb.get? 276 = some ob := h3
      rw [this] at h3'
      cases h3'
theorem stW (Y : myHook.says w s₁.heap) (T : Top p loose mean mg mb s₁.heap) (hg : s₁.gens = #[]) : St (cxW Y T) [(276, P.raw (tabObj #[]))] (cxW Y T).hb.get? s₁ where
  base := fun _ _ e => e
  frz := fun _ _ e => of_hideAll _ e
  tur := fun q hq => by cases List.mem_singleton.mp hq; exact ⟨_, Y.2.2, rfl⟩
  nd := List.nodup_cons.mpr ⟨(fun h => nomatch h), List.nodup_nil⟩
  sep := fun q hq => by cases List.mem_singleton.mp hq; exact hideAll_none _ (.head _)
  gens := hg
  os := rfl
theorem law_end {fa l : Addr} {vs : List Value} {xs : List Int} {cw : ClaimW} {cl : Str → Option Addr} {args : List WData} (Y : myHook.says w s₁.heap) (T : Top p loose mean mg mb s₁.heap) (hg : s₁.gens = #[]) (hm : mg "law" = some (.ref fa)) (hL : s₁.heap.IsList l vs.toArray) (hI : IntsAre vs xs) (hz : ¬ ((63 : Int) < (xs.length : Int)))
    (hr : ∀ a x, cw.raises a x = false) (hp : cw.post args (.bool true) args = true) : wpAny (model prog w) callerA (call (.ref fa) [.ref l] []) (fun v s' => GoodWG cw cl mean args s₁ (.ok (.ret v)) s') (fun e s' => GoodWG cw cl mean args s₁ (.error e) s') s₁ := by
  have hfa : fa = 279 := by
    have := mg_of Y.1 T.g (n := "law") (v := .ref 279) rfl
    rw [hm] at this
    cases this; rfl
  subst hfa
  have hxs : xs.length ≤ sizeLine := Nat.le_trans (by omega : xs.length ≤ 64) (Nat.le_of_ble_eq_true rfl)
  obtain ⟨o, ho, hc, n, hd⟩ := ghost_list (tabsAt Y) hL
  have hs : (dScr xs).is (cxW Y T).hb.get? (.ref l) := ⟨l, o, vs.toArray, n, rfl, ho, hc, hd, ints_rep hI⟩
  have W := w_law (n := 0) (A := callerA) (H := []) (lamOkW Y T) rmCaller rfl hxs _ s₁ _ (stW Y T hg) (.one hs)
  refine wpAny_call (codeAny_mono (kn_post (cw := cw) (cl := cl) (mean := mean) (args := args) (tabsAt Y) hr (codeAny_mono W fun r s' z => ?_)) fun r s' z => ?_)
  · cases z with
    | mk v F' e lF S r =>
      subst e
      cases (r : v = .bool true)
      refine ⟨⟨.inl ⟨_, .bool true, [], rfl, hr args, .bool true, hp, fun _ => ⟨.nil, fun _ h => nomatch h⟩⟩, fun b q e => S.hbk b q e, S.os, S.gens⟩, ?_, trivial⟩
      obtain ⟨o, e, ps, h⟩ := S.tur _ (.head _)
      exact ⟨ps, h ▸ e⟩
  · have z' := z
    rcases z.1 with ⟨v, d, as, rfl, _⟩ | ⟨e, ob, x, rfl, _⟩
    · exact z'
    · exact z'
end
end Mine
open Mine
set_option maxRecDepth 100000 in
set_option maxHeartbeats 8000000 in
theorem PySem.Challenge.cw_on0164_01_holds : PySem.Challenge.rw_on0164_01.Holds := by
  w_on; o_law
  refine holds_open (q := qv) (loose := looseL) (Xt := fun s => xlAt qv [] s && recOk [] s) (XP := XL qv []) (Yf := myHook.obs) (Ya := myHook.val) (YP := myHook.says) (N := 4000) lf myHook.of myHook.keeps (fun s e => xl_of s (Bool.and_eq_true_iff.mp e).1) XL.keeps (by rfl) (by rfl) (by rfl) (fun s e => recFacts_of (Bool.and_eq_true_iff.mp e).2) (by rfl) (by first | assumption | decide +kernel) (by decide +kernel) ⟨rfl, rfl, rfl, rfl, rfl, by decide +kernel⟩ ?hw ?hc
  case hw => w_witness2
  case hc =>
    intro w s₀ s₁ mg mb G Y fa o pm cd doc dV kV ho hd hcd hD hmg hg args vals as hpre hlay hrd hwl hlo
    refine Ground.open G ?_
    intro T B D TE TW
    wrow_args hpre hlay hrd hwl hlo
    exact law_end Y T hg hmg (by assumption) (by assumption) (by assumption) (fun _ _ => rfl) (by wrow_post)
