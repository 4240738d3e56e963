import PyProof.Rows.All
import Wide.All
import OpenK.AllK
import Wide.FinOn
import PySem.Challenge.RW_pb0252_01
set_option Elab.async false
section Said
open PySem PySem.W PyProof.Rows
namespace Mine
theorem roads_app (lk : Look) : ∀ a b : List Stmt, noRoadLSs lk (a ++ b) = (noRoadLSs lk a && noRoadLSs lk b)
  | [], b => by rw [List.nil_append, noRoadLSs, Bool.true_and]
  | s :: a, b => by rw [List.cons_append, noRoadLSs, noRoadLSs, roads_app lk a b, Bool.and_assoc]
theorem roads_at (lk : Look) (l : List Stmt) (i : Nat) (s : Stmt) (h : l.drop i = s :: l.drop (i + 1)) (h1 : noRoadLSs lk (l.take i) = true) (h2 : noRoadLS lk s = true) (h3 : noRoadLSs lk (l.drop (i + 1)) = true) : noRoadLSs lk l = true := by
  have e : l = l.take i ++ (s :: l.drop (i + 1)) := by rw [← h, List.take_append_drop]
  rw [e, roads_app, h1, noRoadLSs, h2, h3]
  rfl
theorem road_one (lk : Look) (n : Str) (p q r : Pos) (x : Str) (k : Nat) (hs : lk.stores [.Name n p] = true) (hn : lk.name n = true) (hx : lk.str x = true) : noRoadLS lk (.Assign [.Name n p] (.Constant (.str x) k q) r) = true := by
  rw [noRoadLS, noRoadLs, noRoadL, noRoadLs, noRoadL, hs, hn, hx]
  rfl
theorem all_list {p : Nat → Bool} {x : Str} {l : List Nat} (e : x = ⟨l.toArray⟩) : x.cps.any p = l.any p := by
  subst e
  simp
theorem plain_road {x : Str} {l : List Nat} (e : x = ⟨l.toArray⟩) (h : l.all (fun c => c != 123 && c != 125 && c != 46) = true) : roadStr x = false := by
  unfold roadStr
  rw [all_list e, all_list e]
  have q := List.all_eq_true.mp h
  have a : l.any (fun c => c == 123 || c == 125) = false := by
    rw [List.any_eq_false]
    intro c hc
    have := q c hc
    simp only [Bool.and_eq_true, bne_iff_ne] at this
    simp [this.1.1, this.1.2]
  have b : l.any (· == 46) = false := by
    rw [List.any_eq_false]
    intro c hc
    have := q c hc
    simp only [Bool.and_eq_true, bne_iff_ne] at this
    simp [this.2]
  rw [a, b]
  rfl
theorem str_of {lk : Look} {x : Str} (h : lk.word x = true) (h' : roadStr x = false) : lk.str x = true := by
  unfold Look.str
  rw [h, h', Bool.or_true, Bool.not_false, Bool.true_or, Bool.and_true]
end Mine
set_option maxRecDepth 100000 in
set_option maxHeartbeats 0 in
theorem Mine.look9 : noRoadLSs { strict := !(importedModules PySem.Challenge.pw_pb0252_01.main.body).all cThrough.contains, foot := none, bare := (["vars", "dir", "locals"] : List Str).filter (readsOut PySem.Challenge.pw_pb0252_01 PySem.Challenge.pw_pb0252_01.main.body) } PySem.Challenge.pw_pb0252_01.main.body = true := by
  refine Mine.roads_at _ _ 10 _ (by with_unfolding_all exact rfl) ?a ?b ?c
  case a => k_qdec
  case c => k_qdec
  case b =>
    refine Mine.road_one _ _ _ _ _ _ _ ?_ ?_ ?_
    · k_qdec
    · k_qdec
    · refine Mine.str_of ?_ ?_
      · k_qdec
      · refine Mine.plain_road (PySem.W.Fast.ofString_ofList _) ?_
        decide +kernel
set_option maxRecDepth 100000 in
set_option maxHeartbeats 0 in
theorem Mine.opens : looksOpen PySem.Challenge.pw_pb0252_01 = true := by
  unfold looksOpen
  refine look_both (look_both ?_ Mine.look9) ?_
  · repeat' (with_reducible refine look_both ?_ ?_)
    all_goals k_qdec
  · k_qdec
set_option maxRecDepth 100000 in
set_option maxHeartbeats 0 in
theorem Mine.said : PySem.Challenge.rw_pb0252_01.wellSaid = true := by
  unfold OpenLaw.wellSaid OpenRow.wellSaid OpenRow.partSaid
  repeat' (with_reducible refine look_both ?_ ?_)
  · exact Mine.opens
  all_goals k_qdec
theorem Mine.kNoneSaid : True := by
  k_with_none
  w_top off
  exact trivial
end Said
section Hd
open PySem PySem.W PyProof.Rows
set_option linter.unusedVariables false
namespace Mine
noncomputable def textOf : Option PySem.Stmt → Str
  | some (PySem.Stmt.Assign _ (PySem.Expr.Constant (PySem.Const.str x) _ _) _) => x
  | _ => Str.empty
noncomputable def reserved : Str := textOf (PySem.Challenge.pw_pb0252_01.main.body.drop 10).head?
noncomputable def patch (x : Str) (K : List (Nat × Obj)) : Option Obj := match K.lookup mainNs with
  | some ⟨c, d, .dict es n, sl⟩ => some ⟨c, d, .dict (es.toList.modify 16 fun e => ⟨e.hash, e.key, .str x 293⟩).toArray n, sl⟩
  | o => o
noncomputable def notMain (a : Nat) : Bool := match Nat.beq a mainNs with
  | true => false
  | false => true
theorem lookup_notMain {a : Nat} (h : notMain a = true) : ∀ K : List (Nat × Obj), (K.filter fun p => notMain p.1).lookup a = K.lookup a
  | [] => rfl
  | p :: r => by
    obtain ⟨b, o⟩ := p
    rw [List.filter_cons]
    by_cases hb : notMain b = true
    · rw [if_pos hb, List.lookup_cons, List.lookup_cons, lookup_notMain h r]
    · rw [if_neg hb, List.lookup_cons, lookup_notMain h r]
      have : (a == b) = false := by
        rw [beq_eq_false_iff_ne]
        rintro rfl
        exact hb h
      rw [this]
theorem notMain_or (a : Nat) : notMain a = true ∨ a = mainNs := by
  unfold notMain
  cases h : Nat.beq a mainNs with
  | true => exact .inr (Nat.eq_of_beq_eq_true h)
  | false => exact .inl rfl
theorem zip_of {f : Nat → Option Obj} : ∀ (l : List Nat) (l' : List Obj), l.map f = l'.map some → ∀ a o, (a, o) ∈ l.zip l' → f a = some o
  | [], _, _, _, _, h => by cases h
  | _ :: _, [], e, _, _, _ => by cases e
  | b :: l, c :: l', e, a, o, h => by
    rw [List.map_cons, List.map_cons] at e
    obtain ⟨e1, e2⟩ := List.cons.inj e
    rw [List.zip_cons_cons] at h
    rcases List.mem_cons.mp h with h | h
    · cases h; exact e1
    · exact zip_of l l' e2 a o h
theorem zip_lookup : ∀ (K : List (Nat × Obj)) {a : Nat} {o : Obj}, notMain a = true → K.lookup a = some o → (a, o) ∈ ((K.map (·.1)).filter notMain).zip ((K.filter fun p => notMain p.1).map (·.2))
  | [], _, _, _, h => by cases h
  | p :: r, a, o, ha, h => by
    obtain ⟨b, o'⟩ := p
    rw [List.lookup_cons] at h
    rw [List.map_cons, List.filter_cons, List.filter_cons]
    cases q : a == b with
    | true =>
      rw [q] at h
      obtain rfl : a = b := beq_iff_eq.mp q
      obtain rfl : o' = o := by simpa using h
      rw [if_pos ha, if_pos ha, List.map_cons, List.zip_cons_cons]
      exact .head _
    | false =>
      rw [q] at h
      have m := zip_lookup r ha h
      by_cases hb : notMain b = true
      · rw [if_pos hb, if_pos hb, List.map_cons, List.zip_cons_cons]
        exact .tail _ m
      · rw [if_neg hb, if_neg hb]
        exact m
noncomputable def hookNs (x : Str) (K : Params → List (Nat × Obj)) (as ts : List Addr) (_u : Unit) : Hook where
  α := List (Option Obj) × Option Obj × List (Option Obj)
  obs := fun s => ((as.filter notMain).map s.heap.get?, s.heap.get? mainNs, ts.map s.heap.get?)
  val := fun w => (((K w.params).filter fun (p : Nat × Obj) => notMain p.1).map (fun (p : Nat × Obj) => some p.2), patch x (K w.params), ts.map fun _ => some (tabObj #[]))
  says := fun w h => (∀ (a : Nat) (o : Obj), (a, o) ∈ (as.filter notMain).zip (((K w.params).filter fun (p : Nat × Obj) => notMain p.1).map fun (p : Nat × Obj) => p.2) → h.get? a = some o) ∧ (∀ o, patch x (K w.params) = some o → h.get? mainNs = some o) ∧ ∀ P ∈ ts, h.get? P = some (tabObj #[])
  of := fun w s q => by
    obtain ⟨q1, q2⟩ := Prod.mk.inj q
    obtain ⟨q2, q3⟩ := Prod.mk.inj q2
    refine ⟨zip_of _ _ ?_, fun o h => q2.trans h, List.map_inj_left.mp q3⟩
    rw [List.map_map]
    exact q1
  keeps := fun w a b q k => ⟨fun c o h => k _ _ (q.1 c o h), fun o h => k _ _ (q.2.1 o h), fun P hP => k _ _ (q.2.2 P hP)⟩
theorem hookNs_in {x : Str} {K : Params → List (Nat × Obj)} {as ts : List Addr} {u : Unit} {w : World} {h : Heap} (Y : (hookNs x K as ts u).says w h) (e : as = (K w.params).map (·.1)) (n : (K w.params).lookup mainNs = patch x (K w.params)) : Frag.In (K w.params) h := by
  intro a o q
  rcases notMain_or a with ha | rfl
  · refine Y.1 a o ?_
    rw [e]
    exact zip_lookup _ ha q
  · exact Y.2.1 o (n.symm.trans q)
theorem hookNs_tabs {x : Str} {K : Params → List (Nat × Obj)} {as ts : List Addr} {u : Unit} {w : World} {h : Heap} (Y : (hookNs x K as ts u).says w h) : ∀ P ∈ ts, h.get? P = some (tabObj #[]) := Y.2.2
end Mine
set_option maxRecDepth 100000
set_option maxHeartbeats 0
section
set_option hygiene false in
local macro_rules | `(tactic| o_head ($_f:term $_K $_as $_e $_ts)) => `(tactic| exact h)
/-- this one is here for the sake of the written part that k_head lays -/
theorem Mine.base (h : PySem.Challenge.rw_pb0252_01.row.Holds) : PySem.Challenge.rw_pb0252_01.row.Holds := by
  k_head
end
namespace Mine
noncomputable abbrev pwH : Program := PySem.Challenge.pw_pb0252_01
noncomputable def adrH : List Addr := [2, 3, 15, 17, 18, 20, 21, 22, 23, 24, 25, 26, 27, 29, 30, 32, 33, 34, 36, 37, 39, 40, 41, 43, 44, 46, 47, 48, 55, 56, 57, 59, 60, 62, 63, 64, 66, 67, 69, 70, 71, 72, 73, 74, 77, 84, 85, 86, 89, 91, 92, 94, 95, 103, 104, 106, 107, 109, 110, 111, 112, 114, 115, 117, 118, 119, 121, 122, 124, 125, 126, 128, 129, 131, 132, 133, 135, 136, 138, 139, 140, 141, 143, 144, 146, 147, 148, 150, 151, 153, 154, 155, 157, 158, 160, 161, 162, 164, 165, 167, 168, 169, 171, 172, 174, 175, 176, 178, 179, 181, 182, 183, 184, 186, 187, 189, 190, 191, 193, 194, 196, 197, 198, 200, 201, 203, 204, 205, 206, 208, 209, 211, 212, 213, 215, 216, 218, 219, 220, 222, 223, 225, 226, 227, 229, 230, 232, 233, 234, 236, 237, 239, 240, 241, 243, 244, 246, 247, 248, 250, 251, 253, 254, 255, 257, 258, 260, 261, 262, 263, 264, 265, 266, 276, 277, 278, 280, 281, 283, 284, 285, 287, 288, 290, 291, 292, 293, 294, 295, 296, 299, 300, 301, 302, 303, 304, 307, 308, 309, 312, 313]
noncomputable def keepH : List Nat := [0, 2, 3, 4, 5, 7, 8, 10, 11, 12, 14, 16, 17, 18]
noncomputable def viewOfH (p : Program) : Program := { p with main := { p.main with body := keepH.filterMap fun i => p.main.body[i]? } }
noncomputable def view : Program := { pwH with main := { pwH.main with body := keepH.filterMap fun i => pwH.main.body[i]? } }
noncomputable def looseH : List Str := [Str.ofString "LedgerError", Str.ofString "Token"]
noncomputable def envOfH (p : Program) : Env := { scope := p.main.scope, locals := mainNs, globals := mainNs, cells := [], code := .ref 13, frame := some 14 }
noncomputable def codeOfH (p : Program) : Code := .body (behindTheImports p) (envOfH p)
noncomputable def wordsOfH (p : Program) : Str := textOf (p.main.body.drop 10).head?
noncomputable abbrev annH : Option Value := some (.ref 6)
noncomputable abbrev hkH (x : Str) : Hook := hookNs x base.heap_1 adrH [310] ()
noncomputable abbrev rowH : RowW := OpenRow.toRowW PySem.Challenge.rw_pb0252_01.row
noncomputable abbrev at0H : Pos := ⟨0, 0, 0, 0⟩
/-- a heap's objects, one after the other, into a tree -/
noncomputable def growH : List Obj → BT → Nat → Option BT
  | [], t, _ => some t
  | o :: l, t, n => match ((t.ins n o).get n).isSome with
    | true => growH l (t.ins n o) (n + 1)
    | false => none
theorem grow_abs (life : Life) : ∀ (l : List Obj) (t t' : BT) (n : Nat), growH l t n = some t' → absHeap t' (n + l.length) life = ⟨((absHeap t n life).objs.toList ++ l).toArray, life⟩
  | [], t, t', n, h => by
    obtain rfl : t = t' := Option.some.inj h
    rw [List.append_nil]
    rfl
  | o :: l, t, t', n, h => by
    unfold growH at h
    cases g : ((t.ins n o).get n).isSome with
    | false => rw [g] at h; cases h
    | true =>
      rw [g] at h
      have q := grow_abs life l _ _ _ h
      rw [absHeap_ins g] at q
      rw [show n + (o :: l).length = n + 1 + l.length by simp only [List.length_cons]; omega, q]
      simp [Heap.push]
noncomputable def treeOfH (s : Shared) : Option SharedT := (growH s.heap.objs.toList .nil 0).map fun t => ⟨t, s.heap.objs.toList.length, s.heap.life, s.gens, s.drawn, s.toks, s.os⟩
theorem treeOf_abs {s : Shared} {t : SharedT} (h : treeOfH s = some t) : t.abs = s := by
  obtain ⟨T, g, rfl⟩ := Option.map_eq_some_iff.mp h
  obtain ⟨⟨objs, life⟩, gens, drawn, toks, os⟩ := s
  have q := grow_abs life _ _ _ _ g
  rw [Nat.zero_add] at q
  unfold SharedT.abs
  rw [show absHeap T objs.toList.length life = ⟨objs, life⟩ from q.trans (by simp [absHeap, BT.list])]
end Mine
namespace Mine.T
/-- the program's term in the kit's quick form; the defs stand in the states as parts of it -/
noncomputable abbrev pwF : Program := PySem.W.Fast.tw15470812959826284320
noncomputable def stAt (p : Program) (i : Nat) : Stmt := (p.main.body[i]?).getD (.Pass at0H)
noncomputable def memAt (p : Program) (i j : Nat) : Stmt := match stAt p i with
  | .ClassDef _ _ _ b _ _ _ _ _ _ _ => (b[j]?).getD (.Pass at0H)
  | s => s
noncomputable def fnA : Stmt → Arguments
  | .FunctionDef _ a _ _ _ _ _ _ _ _ => a
  | _ => { posonlyargs := [], args := [], vararg := none, kwonlyargs := [], kw_defaults := [], kwarg := none, defaults := [] }
noncomputable def fnB : Stmt → List Stmt
  | .FunctionDef _ _ b _ _ _ _ _ _ _ => b
  | _ => []
noncomputable def fnC : Stmt → Scope
  | .FunctionDef _ _ _ _ _ _ s _ _ _ => s
  | _ => { kind := .module, names := [], isGenerator := false, isCoroutine := false, more := [] }
noncomputable abbrev resF : Str := wordsOfH pwF
noncomputable abbrev t0 : Str := ⟨⟨[60, 109, 111, 100, 117, 108, 101, 62]⟩⟩
noncomputable abbrev t1 : Str := ⟨⟨[47, 99, 108, 97, 105, 109, 47, 99, 117, 116, 46, 112, 121]⟩⟩
noncomputable abbrev t2 : Str := ⟨⟨[95, 95, 109, 97, 105, 110, 95, 95]⟩⟩
noncomputable abbrev t3 : Str := ⟨⟨[116, 121, 112, 101, 46, 95, 95, 115, 117, 98, 99, 108, 97, 115, 115, 101, 115, 95, 95, 46, 69, 120, 99, 101, 112, 116, 105, 111, 110, 46, 48]⟩⟩
noncomputable abbrev t4 : Str := ⟨⟨[116, 121, 112, 101, 46, 95, 95, 115, 117, 98, 99, 108, 97, 115, 115, 101, 115, 95, 95, 46, 69, 120, 99, 101, 112, 116, 105, 111, 110, 46, 110]⟩⟩
noncomputable abbrev t5 : Str := ⟨⟨[95, 95, 110, 97, 109, 101, 95, 95]⟩⟩
noncomputable abbrev t6 : Str := ⟨⟨[108, 101, 100, 103, 101, 114, 115, 112, 101, 97, 107, 46, 101, 114, 114, 111, 114, 115]⟩⟩
noncomputable abbrev t7 : Str := ⟨⟨[95, 95, 100, 111, 99, 95, 95]⟩⟩
noncomputable abbrev t8 : Str := ⟨⟨[95, 95, 112, 97, 99, 107, 97, 103, 101, 95, 95]⟩⟩
noncomputable abbrev t9 : Str := ⟨⟨[95, 95, 108, 111, 97, 100, 101, 114, 95, 95]⟩⟩
noncomputable abbrev t10 : Str := ⟨⟨[95, 95, 115, 112, 101, 99, 95, 95]⟩⟩
noncomputable abbrev t11 : Str := ⟨⟨[95, 95, 97, 110, 110, 111, 116, 97, 116, 105, 111, 110, 115, 95, 95]⟩⟩
noncomputable abbrev t12 : Str := ⟨⟨[95, 95, 98, 117, 105, 108, 116, 105, 110, 115, 95, 95]⟩⟩
noncomputable abbrev t13 : Str := ⟨⟨[95, 95, 102, 105, 108, 101, 95, 95]⟩⟩
noncomputable abbrev t14 : Str := ⟨⟨[95, 95, 99, 97, 99, 104, 101, 100, 95, 95]⟩⟩
noncomputable abbrev t15 : Str := ⟨⟨[95, 119, 97, 108, 108]⟩⟩
noncomputable abbrev t16 : Str := ⟨⟨[77, 79, 68, 69, 83]⟩⟩
noncomputable abbrev t17 : Str := ⟨⟨[109, 111, 100, 101, 95, 104, 101, 114, 101]⟩⟩
noncomputable abbrev t18 : Str := ⟨⟨[114, 101, 97, 100, 95, 111, 112, 101, 110]⟩⟩
noncomputable abbrev t19 : Str := ⟨⟨[114, 101, 97, 100, 95, 99, 108, 111, 115, 101]⟩⟩
noncomputable abbrev t20 : Str := ⟨⟨[76, 101, 100, 103, 101, 114, 69, 114, 114, 111, 114]⟩⟩
noncomputable abbrev t21 : Str := ⟨⟨[107]⟩⟩
noncomputable abbrev t22 : Str := ⟨⟨[73, 78, 80, 85, 84]⟩⟩
noncomputable abbrev t23 : Str := ⟨⟨[105, 110, 112, 117, 116]⟩⟩
noncomputable abbrev t24 : Str := ⟨⟨[79, 85, 84, 80, 85, 84]⟩⟩
noncomputable abbrev t25 : Str := ⟨⟨[111, 117, 116, 112, 117, 116]⟩⟩
noncomputable abbrev t26 : Str := ⟨⟨[73, 45, 79]⟩⟩
noncomputable abbrev t27 : Str := ⟨⟨[105, 45, 111]⟩⟩
noncomputable abbrev t28 : Str := ⟨⟨[69, 88, 84, 69, 78, 68]⟩⟩
noncomputable abbrev t29 : Str := ⟨⟨[101, 120, 116, 101, 110, 100]⟩⟩
noncomputable abbrev t30 : Str := ⟨⟨[114, 101, 97, 100, 101, 114]⟩⟩
noncomputable abbrev t31 : Str := ⟨⟨[119, 111, 114, 100]⟩⟩
noncomputable abbrev t32 : Str := ⟨⟨[109, 111, 100, 101]⟩⟩
noncomputable abbrev t33 : Str := ⟨⟨[108, 101, 100, 103, 101, 114, 115, 112, 101, 97, 107, 46, 114, 101, 97, 100, 102, 105, 108, 101, 115]⟩⟩
noncomputable abbrev t34 : Str := ⟨⟨[114, 101, 97, 100, 95, 98, 111, 100, 121]⟩⟩
noncomputable abbrev t35 : Str := ⟨⟨[114, 111, 119, 115]⟩⟩
noncomputable abbrev t36 : Str := ⟨⟨[110, 97, 109, 101]⟩⟩
noncomputable abbrev t37 : Str := ⟨⟨[95, 95, 109, 111, 100, 117, 108, 101, 95, 95]⟩⟩
noncomputable abbrev t38 : Str := ⟨⟨[95, 95, 113, 117, 97, 108, 110, 97, 109, 101, 95, 95]⟩⟩
noncomputable abbrev t39 : Str := ⟨⟨[95, 95, 102, 105, 114, 115, 116, 108, 105, 110, 101, 110, 111, 95, 95]⟩⟩
noncomputable abbrev t40 : Str := ⟨⟨[95, 95, 105, 110, 105, 116, 95, 95]⟩⟩
noncomputable abbrev t41 : Str := ⟨⟨[116, 111, 108, 100]⟩⟩
noncomputable abbrev t42 : Str := ⟨⟨[95, 95, 115, 116, 97, 116, 105, 99, 95, 97, 116, 116, 114, 105, 98, 117, 116, 101, 115, 95, 95]⟩⟩
noncomputable abbrev t43 : Str := ⟨⟨[115, 101, 108, 102]⟩⟩
noncomputable abbrev t44 : Str := ⟨⟨[119, 104, 97, 116]⟩⟩
noncomputable abbrev t45 : Str := ⟨⟨[97, 116]⟩⟩
noncomputable abbrev t46 : Str := ⟨⟨[76, 101, 100, 103, 101, 114, 69, 114, 114, 111, 114, 46, 95, 95, 105, 110, 105, 116, 95, 95]⟩⟩
noncomputable abbrev t47 : Str := ⟨⟨[76, 101, 100, 103, 101, 114, 69, 114, 114, 111, 114, 46, 116, 111, 108, 100]⟩⟩
noncomputable abbrev t48 : Str := ⟨⟨[95, 95, 119, 101, 97, 107, 114, 101, 102, 95, 95]⟩⟩
noncomputable abbrev t49 : Str := ⟨⟨[108, 101, 100, 103, 101, 114, 115, 112, 101, 97, 107, 46, 114, 101, 97, 100, 101, 114]⟩⟩
noncomputable abbrev t50 : Str := ⟨⟨[71, 114, 97, 109, 109, 97, 114, 70, 97, 117, 108, 116]⟩⟩
noncomputable abbrev t51 : Str := ⟨⟨[82, 69, 83, 69, 82, 86, 69, 68]⟩⟩
noncomputable abbrev t52 : Str := ⟨⟨[105, 115, 95, 114, 101, 115, 101, 114, 118, 101, 100]⟩⟩
noncomputable abbrev t53 : Str := ⟨⟨[82, 101, 97, 100, 101, 114]⟩⟩
noncomputable abbrev t54 : Str := ⟨⟨[112, 101, 101, 107]⟩⟩
noncomputable abbrev t55 : Str := ⟨⟨[105, 115, 95, 100, 111, 110, 101]⟩⟩
noncomputable abbrev t56 : Str := ⟨⟨[102, 97, 117, 108, 116]⟩⟩
noncomputable abbrev t57 : Str := ⟨⟨[116, 97, 107, 101]⟩⟩
noncomputable abbrev t58 : Str := ⟨⟨[105, 115, 95, 107, 105, 110, 100]⟩⟩
noncomputable abbrev t59 : Str := ⟨⟨[105, 115, 95, 119, 111, 114, 100]⟩⟩
noncomputable abbrev t60 : Str := ⟨⟨[115, 107, 105, 112]⟩⟩
noncomputable abbrev t61 : Str := ⟨⟨[110, 101, 101, 100]⟩⟩
noncomputable abbrev t62 : Str := ⟨⟨[111, 110, 101, 95, 111, 102]⟩⟩
noncomputable abbrev t63 : Str := ⟨⟨[105, 115, 95, 110, 97, 109, 101]⟩⟩
noncomputable abbrev t64 : Str := ⟨⟨[110, 97, 109, 101, 115]⟩⟩
noncomputable abbrev t65 : Str := ⟨⟨[105, 115, 95, 115, 105, 103, 110]⟩⟩
noncomputable abbrev t66 : Str := ⟨⟨[115, 107, 105, 112, 95, 115, 105, 103, 110]⟩⟩
noncomputable abbrev t67 : Str := ⟨⟨[110, 101, 101, 100, 95, 115, 105, 103, 110]⟩⟩
noncomputable abbrev t68 : Str := ⟨⟨[105, 115, 95, 110, 117, 109, 98, 101, 114]⟩⟩
noncomputable abbrev t69 : Str := ⟨⟨[115, 105, 103, 110, 101, 100]⟩⟩
noncomputable abbrev t70 : Str := ⟨⟨[119, 104, 111, 108, 101]⟩⟩
noncomputable abbrev t71 : Str := ⟨⟨[108, 105, 116, 101, 114, 97, 108]⟩⟩
noncomputable abbrev t72 : Str := ⟨⟨[111, 99, 116, 101, 116, 115]⟩⟩
noncomputable abbrev t73 : Str := ⟨⟨[116, 111, 107, 101, 110, 115]⟩⟩
noncomputable abbrev t74 : Str := ⟨⟨[82, 101, 97, 100, 101, 114, 46, 95, 95, 105, 110, 105, 116, 95, 95]⟩⟩
noncomputable abbrev t75 : Str := ⟨⟨[97, 104, 101, 97, 100]⟩⟩
noncomputable abbrev t76 : Str := ⟨⟨[82, 101, 97, 100, 101, 114, 46, 112, 101, 101, 107]⟩⟩
noncomputable abbrev t77 : Str := ⟨⟨[82, 101, 97, 100, 101, 114, 46, 105, 115, 95, 100, 111, 110, 101]⟩⟩
noncomputable abbrev t78 : Str := ⟨⟨[82, 101, 97, 100, 101, 114, 46, 102, 97, 117, 108, 116]⟩⟩
noncomputable abbrev t79 : Str := ⟨⟨[116, 111, 107, 101, 110]⟩⟩
noncomputable abbrev t80 : Str := ⟨⟨[82, 101, 97, 100, 101, 114, 46, 116, 97, 107, 101]⟩⟩
noncomputable abbrev t81 : Str := ⟨⟨[107, 105, 110, 100]⟩⟩
noncomputable abbrev t82 : Str := ⟨⟨[82, 101, 97, 100, 101, 114, 46, 105, 115, 95, 107, 105, 110, 100]⟩⟩
noncomputable abbrev t83 : Str := ⟨⟨[119, 111, 114, 100, 115]⟩⟩
noncomputable abbrev t84 : Str := ⟨⟨[82, 101, 97, 100, 101, 114, 46, 105, 115, 95, 119, 111, 114, 100]⟩⟩
noncomputable abbrev t85 : Str := ⟨⟨[82, 101, 97, 100, 101, 114, 46, 115, 107, 105, 112]⟩⟩
noncomputable abbrev t86 : Str := ⟨⟨[82, 101, 97, 100, 101, 114, 46, 110, 101, 101, 100]⟩⟩
noncomputable abbrev t87 : Str := ⟨⟨[82, 101, 97, 100, 101, 114, 46, 111, 110, 101, 95, 111, 102]⟩⟩
noncomputable abbrev t88 : Str := ⟨⟨[82, 101, 97, 100, 101, 114, 46, 119, 111, 114, 100]⟩⟩
noncomputable abbrev t89 : Str := ⟨⟨[82, 101, 97, 100, 101, 114, 46, 105, 115, 95, 110, 97, 109, 101]⟩⟩
noncomputable abbrev t90 : Str := ⟨⟨[82, 101, 97, 100, 101, 114, 46, 110, 97, 109, 101]⟩⟩
noncomputable abbrev t91 : Str := ⟨⟨[102, 111, 117, 110, 100]⟩⟩
noncomputable abbrev t92 : Str := ⟨⟨[82, 101, 97, 100, 101, 114, 46, 110, 97, 109, 101, 115]⟩⟩
noncomputable abbrev t93 : Str := ⟨⟨[115, 105, 103, 110]⟩⟩
noncomputable abbrev t94 : Str := ⟨⟨[82, 101, 97, 100, 101, 114, 46, 105, 115, 95, 115, 105, 103, 110]⟩⟩
noncomputable abbrev t95 : Str := ⟨⟨[82, 101, 97, 100, 101, 114, 46, 115, 107, 105, 112, 95, 115, 105, 103, 110]⟩⟩
noncomputable abbrev t96 : Str := ⟨⟨[82, 101, 97, 100, 101, 114, 46, 110, 101, 101, 100, 95, 115, 105, 103, 110]⟩⟩
noncomputable abbrev t97 : Str := ⟨⟨[82, 101, 97, 100, 101, 114, 46, 105, 115, 95, 110, 117, 109, 98, 101, 114]⟩⟩
noncomputable abbrev t98 : Str := ⟨⟨[82, 101, 97, 100, 101, 114, 46, 115, 105, 103, 110, 101, 100]⟩⟩
noncomputable abbrev t99 : Str := ⟨⟨[82, 101, 97, 100, 101, 114, 46, 119, 104, 111, 108, 101]⟩⟩
noncomputable abbrev t100 : Str := ⟨⟨[82, 101, 97, 100, 101, 114, 46, 108, 105, 116, 101, 114, 97, 108]⟩⟩
noncomputable abbrev t101 : Str := ⟨⟨[82, 101, 97, 100, 101, 114, 46, 111, 99, 116, 101, 116, 115]⟩⟩
noncomputable abbrev t102 : Str := ⟨⟨[110, 97, 109, 101, 100]⟩⟩
noncomputable abbrev t103 : Str := ⟨⟨[95, 95, 100, 105, 99, 116, 95, 95]⟩⟩
noncomputable abbrev t104 : Str := ⟨⟨[108, 97, 119, 95, 112, 98, 48, 50, 53, 50, 95, 48, 49]⟩⟩
noncomputable abbrev t105 : Str := ⟨⟨[84, 111, 107, 101, 110]⟩⟩
noncomputable abbrev t106 : Str := ⟨⟨[95, 108, 97, 119, 95, 77, 79, 68, 69, 83]⟩⟩
noncomputable abbrev t107 : Str := ⟨⟨[95, 108, 97, 119, 95, 114, 101, 97, 100]⟩⟩
noncomputable abbrev t108 : Str := ⟨⟨[108, 97, 119]⟩⟩
noncomputable abbrev t109 : Str := ⟨⟨[108, 101, 100, 103, 101, 114, 115, 112, 101, 97, 107, 46, 116, 111, 107, 101, 110, 115]⟩⟩
noncomputable abbrev t110 : Str := ⟨⟨[119, 111, 114, 116, 104]⟩⟩
noncomputable abbrev t111 : Str := ⟨⟨[105, 115, 95, 105, 110, 95, 97]⟩⟩
noncomputable abbrev t112 : Str := ⟨⟨[84, 111, 107, 101, 110, 46, 95, 95, 105, 110, 105, 116, 95, 95]⟩⟩
noncomputable abbrev t113 : Str := ⟨⟨[84, 111, 107, 101, 110, 46, 116, 111, 108, 100]⟩⟩
noncomputable abbrev f0a : Arguments := fnA (stAt pwF 0)
noncomputable abbrev f0b : FuncBody := .stmts (fnB (stAt pwF 0))
noncomputable abbrev f0c : Scope := fnC (stAt pwF 0)
noncomputable abbrev f3a : Arguments := fnA (stAt pwF 3)
noncomputable abbrev f3b : FuncBody := .stmts (fnB (stAt pwF 3))
noncomputable abbrev f3c : Scope := fnC (stAt pwF 3)
noncomputable abbrev f4a : Arguments := fnA (stAt pwF 4)
noncomputable abbrev f4b : FuncBody := .stmts (fnB (stAt pwF 4))
noncomputable abbrev f4c : Scope := fnC (stAt pwF 4)
noncomputable abbrev f5a : Arguments := fnA (stAt pwF 5)
noncomputable abbrev f5b : FuncBody := .stmts (fnB (stAt pwF 5))
noncomputable abbrev f5c : Scope := fnC (stAt pwF 5)
noncomputable abbrev f7_0a : Arguments := fnA (memAt pwF 7 0)
noncomputable abbrev f7_0b : FuncBody := .stmts (fnB (memAt pwF 7 0))
noncomputable abbrev f7_0c : Scope := fnC (memAt pwF 7 0)
noncomputable abbrev f7_1a : Arguments := fnA (memAt pwF 7 1)
noncomputable abbrev f7_1b : FuncBody := .stmts (fnB (memAt pwF 7 1))
noncomputable abbrev f7_1c : Scope := fnC (memAt pwF 7 1)
noncomputable abbrev f11a : Arguments := fnA (stAt pwF 11)
noncomputable abbrev f11b : FuncBody := .stmts (fnB (stAt pwF 11))
noncomputable abbrev f11c : Scope := fnC (stAt pwF 11)
noncomputable abbrev f12_0a : Arguments := fnA (memAt pwF 12 0)
noncomputable abbrev f12_0b : FuncBody := .stmts (fnB (memAt pwF 12 0))
noncomputable abbrev f12_0c : Scope := fnC (memAt pwF 12 0)
noncomputable abbrev f12_1a : Arguments := fnA (memAt pwF 12 1)
noncomputable abbrev f12_1b : FuncBody := .stmts (fnB (memAt pwF 12 1))
noncomputable abbrev f12_1c : Scope := fnC (memAt pwF 12 1)
noncomputable abbrev f12_2a : Arguments := fnA (memAt pwF 12 2)
noncomputable abbrev f12_2b : FuncBody := .stmts (fnB (memAt pwF 12 2))
noncomputable abbrev f12_2c : Scope := fnC (memAt pwF 12 2)
noncomputable abbrev f12_3a : Arguments := fnA (memAt pwF 12 3)
noncomputable abbrev f12_3b : FuncBody := .stmts (fnB (memAt pwF 12 3))
noncomputable abbrev f12_3c : Scope := fnC (memAt pwF 12 3)
noncomputable abbrev f12_4a : Arguments := fnA (memAt pwF 12 4)
noncomputable abbrev f12_4b : FuncBody := .stmts (fnB (memAt pwF 12 4))
noncomputable abbrev f12_4c : Scope := fnC (memAt pwF 12 4)
noncomputable abbrev f12_5a : Arguments := fnA (memAt pwF 12 5)
noncomputable abbrev f12_5b : FuncBody := .stmts (fnB (memAt pwF 12 5))
noncomputable abbrev f12_5c : Scope := fnC (memAt pwF 12 5)
noncomputable abbrev f12_6a : Arguments := fnA (memAt pwF 12 6)
noncomputable abbrev f12_6b : FuncBody := .stmts (fnB (memAt pwF 12 6))
noncomputable abbrev f12_6c : Scope := fnC (memAt pwF 12 6)
noncomputable abbrev f12_7a : Arguments := fnA (memAt pwF 12 7)
noncomputable abbrev f12_7b : FuncBody := .stmts (fnB (memAt pwF 12 7))
noncomputable abbrev f12_7c : Scope := fnC (memAt pwF 12 7)
noncomputable abbrev f12_8a : Arguments := fnA (memAt pwF 12 8)
noncomputable abbrev f12_8b : FuncBody := .stmts (fnB (memAt pwF 12 8))
noncomputable abbrev f12_8c : Scope := fnC (memAt pwF 12 8)
noncomputable abbrev f12_9a : Arguments := fnA (memAt pwF 12 9)
noncomputable abbrev f12_9b : FuncBody := .stmts (fnB (memAt pwF 12 9))
noncomputable abbrev f12_9c : Scope := fnC (memAt pwF 12 9)
noncomputable abbrev f12_10a : Arguments := fnA (memAt pwF 12 10)
noncomputable abbrev f12_10b : FuncBody := .stmts (fnB (memAt pwF 12 10))
noncomputable abbrev f12_10c : Scope := fnC (memAt pwF 12 10)
noncomputable abbrev f12_11a : Arguments := fnA (memAt pwF 12 11)
noncomputable abbrev f12_11b : FuncBody := .stmts (fnB (memAt pwF 12 11))
noncomputable abbrev f12_11c : Scope := fnC (memAt pwF 12 11)
noncomputable abbrev f12_12a : Arguments := fnA (memAt pwF 12 12)
noncomputable abbrev f12_12b : FuncBody := .stmts (fnB (memAt pwF 12 12))
noncomputable abbrev f12_12c : Scope := fnC (memAt pwF 12 12)
noncomputable abbrev f12_13a : Arguments := fnA (memAt pwF 12 13)
noncomputable abbrev f12_13b : FuncBody := .stmts (fnB (memAt pwF 12 13))
noncomputable abbrev f12_13c : Scope := fnC (memAt pwF 12 13)
noncomputable abbrev f12_14a : Arguments := fnA (memAt pwF 12 14)
noncomputable abbrev f12_14b : FuncBody := .stmts (fnB (memAt pwF 12 14))
noncomputable abbrev f12_14c : Scope := fnC (memAt pwF 12 14)
noncomputable abbrev f12_15a : Arguments := fnA (memAt pwF 12 15)
noncomputable abbrev f12_15b : FuncBody := .stmts (fnB (memAt pwF 12 15))
noncomputable abbrev f12_15c : Scope := fnC (memAt pwF 12 15)
noncomputable abbrev f12_16a : Arguments := fnA (memAt pwF 12 16)
noncomputable abbrev f12_16b : FuncBody := .stmts (fnB (memAt pwF 12 16))
noncomputable abbrev f12_16c : Scope := fnC (memAt pwF 12 16)
noncomputable abbrev f12_17a : Arguments := fnA (memAt pwF 12 17)
noncomputable abbrev f12_17b : FuncBody := .stmts (fnB (memAt pwF 12 17))
noncomputable abbrev f12_17c : Scope := fnC (memAt pwF 12 17)
noncomputable abbrev f12_18a : Arguments := fnA (memAt pwF 12 18)
noncomputable abbrev f12_18b : FuncBody := .stmts (fnB (memAt pwF 12 18))
noncomputable abbrev f12_18c : Scope := fnC (memAt pwF 12 18)
noncomputable abbrev f12_19a : Arguments := fnA (memAt pwF 12 19)
noncomputable abbrev f12_19b : FuncBody := .stmts (fnB (memAt pwF 12 19))
noncomputable abbrev f12_19c : Scope := fnC (memAt pwF 12 19)
noncomputable abbrev f12_20a : Arguments := fnA (memAt pwF 12 20)
noncomputable abbrev f12_20b : FuncBody := .stmts (fnB (memAt pwF 12 20))
noncomputable abbrev f12_20c : Scope := fnC (memAt pwF 12 20)
noncomputable abbrev f12_21a : Arguments := fnA (memAt pwF 12 21)
noncomputable abbrev f12_21b : FuncBody := .stmts (fnB (memAt pwF 12 21))
noncomputable abbrev f12_21c : Scope := fnC (memAt pwF 12 21)
noncomputable abbrev f14_0a : Arguments := fnA (memAt pwF 14 0)
noncomputable abbrev f14_0b : FuncBody := .stmts (fnB (memAt pwF 14 0))
noncomputable abbrev f14_0c : Scope := fnC (memAt pwF 14 0)
noncomputable abbrev f14_1a : Arguments := fnA (memAt pwF 14 1)
noncomputable abbrev f14_1b : FuncBody := .stmts (fnB (memAt pwF 14 1))
noncomputable abbrev f14_1c : Scope := fnC (memAt pwF 14 1)
noncomputable abbrev f17a : Arguments := fnA (stAt pwF 17)
noncomputable abbrev f17b : FuncBody := .stmts (fnB (stAt pwF 17))
noncomputable abbrev f17c : Scope := fnC (stAt pwF 17)
noncomputable abbrev f18a : Arguments := fnA (stAt pwF 18)
noncomputable abbrev f18b : FuncBody := .stmts (fnB (stAt pwF 18))
noncomputable abbrev f18c : Scope := fnC (stAt pwF 18)
noncomputable def o0 : Params → Obj := fun P => Obj.mk (Value.type SL.s2766695959194262286x5) none (Data.seq #[]) #[]
noncomputable def o1 : Params → Obj := fun P => Obj.mk Value.none none (Data.fields #[]) #[]
noncomputable def o2 : Params → Obj := fun P => Obj.mk (Value.type SL.s5856160107412720595x4) none (Data.fields #[Value.str t0 182, Value.str t0 183, Value.str t1 184, Value.int 1 0, Value.int 0 0, Value.int 0 0, Value.int 0 0, Value.int 0 0, Value.ref 11, Value.bool false, Value.int 181 0, Value.ref 12, Value.none, Value.none, Value.none, Value.none, Value.int 185 0, Value.int 1 0, Value.str t1 186]) #[]
noncomputable def o3 : Params → Obj := fun P => Obj.mk (Value.type SL.s658472552662922059x5) none Data.plain #[some (Value.ref 13), some (Value.ref 3), some (Value.ref 3), none, some (Value.str t2 164), none, some (Value.ref 0)]
noncomputable def o4 : Params → Obj := fun P => Obj.mk Value.none none (Data.dict #[DictEntry.mk (PyData.keyHash P t3) (Value.str t3 271) (Value.int 73 0), DictEntry.mk (PyData.keyHash P t4) (Value.str t4 272) (Value.int 1 0)] 2) #[]
noncomputable def o5 : Params → Obj := fun P => Obj.mk (Value.type SL.s14018661285674007319x4) none (Data.dict #[DictEntry.mk (PyData.keyHash P t5) (Value.str t5 165) (Value.str t6 233), DictEntry.mk (PyData.keyHash P t7) (Value.str t7 166) Value.none, DictEntry.mk (PyData.keyHash P t8) (Value.str t8 167) Value.none, DictEntry.mk (PyData.keyHash P t9) (Value.str t9 168) (Value.builtin SL.s7097527257260152453x26), DictEntry.mk (PyData.keyHash P t10) (Value.str t10 169) Value.none, DictEntry.mk (PyData.keyHash P t11) (Value.str t11 170) (Value.ref 6), DictEntry.mk (PyData.keyHash P t12) (Value.str t12 171) (Value.ref 4), DictEntry.mk (PyData.keyHash P t13) (Value.str t13 173) (Value.str t1 172), DictEntry.mk (PyData.keyHash P t14) (Value.str t14 174) Value.none, DictEntry.mk (PyData.keyHash P t15) (Value.str t15 193) (Value.ref 21), DictEntry.mk (PyData.keyHash P t16) (Value.str t16 204) (Value.ref 26), DictEntry.mk (PyData.keyHash P t17) (Value.str t17 213) (Value.ref 33), DictEntry.mk (PyData.keyHash P t18) (Value.str t18 224) (Value.ref 40), DictEntry.mk (PyData.keyHash P t19) (Value.str t19 232) (Value.ref 47), DictEntry.mk (PyData.keyHash P t20) (Value.str t20 274) (Value.ref 73)] 15) #[]
noncomputable def o6 : Params → Obj := fun P => Obj.mk Value.none none (Data.fields #[Value.int 1 0, Value.int 0 0, Value.ref 20, Value.int 6 0, Value.int 0 0, Value.ref 32, Value.int 11 0, Value.int 0 0, Value.ref 39, Value.int 22 0, Value.int 0 0, Value.ref 46, Value.int 26 0, Value.int 0 0, Value.ref 53]) #[]
noncomputable def o7 : Params → Obj := fun P => Obj.mk (Value.type SL.s2766695959194262286x5) none (Data.seq #[Value.str t21 190]) #[]
noncomputable def o8 : Params → Obj := fun P => Obj.mk Value.none none (Data.func (FuncData.mk t15 t15 f0a f0b f0c 0 [] Value.none Value.none Value.none Value.none none Value.none Value.none 0)) #[]
noncomputable def o9 : Params → Obj := fun P => Obj.mk (Value.type SL.s5856160107412720595x4) none (Data.fields #[Value.str t15 187, Value.str t15 188, Value.str t1 189, Value.int 1 0, Value.int 1 0, Value.int 0 0, Value.int 0 0, Value.int 3 0, Value.ref 15, Value.bool true, Value.int 181 0, Value.ref 16, Value.none, Value.ref 17, Value.ref 18, Value.ref 19, Value.int 191 0, Value.int 1 0, Value.str t1 192]) #[]
noncomputable def o10 : Params → Obj := fun P => Obj.mk (Value.type SL.s7174869446012820540x8) none (Data.func (FuncData.mk t15 t15 f0a f0b f0c 3 [] Value.none Value.none Value.none (Value.str t2 164) none (Value.ref 20) Value.none 0)) #[]
noncomputable def o11 : Params → Obj := fun P => Obj.mk (Value.type SL.s2766695959194262286x5) none (Data.seq #[Value.str t22 196, Value.str t23 197]) #[]
noncomputable def o12 : Params → Obj := fun P => Obj.mk (Value.type SL.s2766695959194262286x5) none (Data.seq #[Value.str t24 198, Value.str t25 199]) #[]
noncomputable def o13 : Params → Obj := fun P => Obj.mk (Value.type SL.s2766695959194262286x5) none (Data.seq #[Value.str t26 200, Value.str t27 201]) #[]
noncomputable def o14 : Params → Obj := fun P => Obj.mk (Value.type SL.s2766695959194262286x5) none (Data.seq #[Value.str t28 202, Value.str t29 203]) #[]
noncomputable def o15 : Params → Obj := fun P => Obj.mk (Value.type SL.s2766695959194262286x5) none (Data.seq #[Value.ref 22, Value.ref 23, Value.ref 24, Value.ref 25]) #[]
noncomputable def o16 : Params → Obj := fun P => Obj.mk (Value.type SL.s2766695959194262286x5) none (Data.seq #[Value.str t30 208, Value.str t31 209, Value.str t32 210]) #[]
noncomputable def o17 : Params → Obj := fun P => Obj.mk Value.none none (Data.func (FuncData.mk t17 t17 f3a f3b f3c 0 [] Value.none Value.none Value.none Value.none none Value.none Value.none 0)) #[]
noncomputable def o18 : Params → Obj := fun P => Obj.mk (Value.type SL.s5856160107412720595x4) none (Data.fields #[Value.str t17 205, Value.str t17 206, Value.str t1 207, Value.int 6 0, Value.int 1 0, Value.int 0 0, Value.int 0 0, Value.int 3 0, Value.ref 27, Value.bool true, Value.int 181 0, Value.ref 28, Value.none, Value.ref 29, Value.ref 30, Value.ref 31, Value.int 211 0, Value.int 6 0, Value.str t1 212]) #[]
noncomputable def o19 : Params → Obj := fun P => Obj.mk (Value.type SL.s7174869446012820540x8) none (Data.func (FuncData.mk t17 t17 f3a f3b f3c 3 [] Value.none Value.none Value.none (Value.str t33 194) none (Value.ref 32) Value.none 0)) #[]
noncomputable def o20 : Params → Obj := fun P => Obj.mk (Value.type SL.s2766695959194262286x5) none (Data.seq #[Value.str t30 217, Value.str t34 218, Value.str t35 219, Value.str t32 220, Value.str t36 221]) #[]
noncomputable def o21 : Params → Obj := fun P => Obj.mk Value.none none (Data.func (FuncData.mk t18 t18 f4a f4b f4c 0 [] Value.none Value.none Value.none Value.none none Value.none Value.none 0)) #[]
noncomputable def o22 : Params → Obj := fun P => Obj.mk (Value.type SL.s5856160107412720595x4) none (Data.fields #[Value.str t18 214, Value.str t18 215, Value.str t1 216, Value.int 11 0, Value.int 2 0, Value.int 0 0, Value.int 0 0, Value.int 3 0, Value.ref 34, Value.bool true, Value.int 181 0, Value.ref 35, Value.none, Value.ref 36, Value.ref 37, Value.ref 38, Value.int 222 0, Value.int 11 0, Value.str t1 223]) #[]
noncomputable def o23 : Params → Obj := fun P => Obj.mk (Value.type SL.s7174869446012820540x8) none (Data.func (FuncData.mk t18 t18 f4a f4b f4c 3 [] Value.none Value.none Value.none (Value.str t33 194) none (Value.ref 39) Value.none 0)) #[]
noncomputable def o24 : Params → Obj := fun P => Obj.mk (Value.type SL.s2766695959194262286x5) none (Data.seq #[Value.str t30 228, Value.str t34 229]) #[]
noncomputable def o25 : Params → Obj := fun P => Obj.mk Value.none none (Data.func (FuncData.mk t19 t19 f5a f5b f5c 0 [] Value.none Value.none Value.none Value.none none Value.none Value.none 0)) #[]
noncomputable def o26 : Params → Obj := fun P => Obj.mk (Value.type SL.s5856160107412720595x4) none (Data.fields #[Value.str t19 225, Value.str t19 226, Value.str t1 227, Value.int 22 0, Value.int 2 0, Value.int 0 0, Value.int 0 0, Value.int 3 0, Value.ref 41, Value.bool true, Value.int 181 0, Value.ref 42, Value.none, Value.ref 43, Value.ref 44, Value.ref 45, Value.int 230 0, Value.int 22 0, Value.str t1 231]) #[]
noncomputable def o27 : Params → Obj := fun P => Obj.mk (Value.type SL.s7174869446012820540x8) none (Data.func (FuncData.mk t19 t19 f5a f5b f5c 3 [] Value.none Value.none Value.none (Value.str t33 194) none (Value.ref 46) Value.none 0)) #[]
noncomputable def o28 : Params → Obj := fun P => Obj.mk (Value.type SL.s2766695959194262286x5) none (Data.seq #[Value.type SL.s5946037652744460706x9]) #[]
noncomputable def o29 : Params → Obj := fun P => Obj.mk (Value.type SL.s11030030927630378310x26) none (Data.fields #[Value.builtin SL.s10062305145149207511x16, Value.type SL.s17162191345867700912x4]) #[]
noncomputable def o30 : Params → Obj := fun P => Obj.mk (Value.type SL.s14018661285674007319x4) none (Data.dict #[DictEntry.mk (PyData.keyHash P t37) (Value.str t37 242) (Value.str t6 233), DictEntry.mk (PyData.keyHash P t38) (Value.str t38 244) (Value.str t20 243), DictEntry.mk (PyData.keyHash P t39) (Value.str t39 246) (Value.int 26 245), DictEntry.mk (PyData.keyHash P t40) (Value.str t40 257) (Value.ref 63), DictEntry.mk (PyData.keyHash P t41) (Value.str t41 264) (Value.ref 70), DictEntry.mk (PyData.keyHash P t42) (Value.str t42 267) (Value.ref 71)] 6) #[]
noncomputable def o31 : Params → Obj := fun P => Obj.mk Value.none none (Data.fields #[Value.int 28 0, Value.int 4 0, Value.ref 62, Value.int 33 0, Value.int 4 0, Value.ref 69]) #[]
noncomputable def o32 : Params → Obj := fun P => Obj.mk (Value.type SL.s5856160107412720595x4) none (Data.fields #[Value.str t20 237, Value.str t20 238, Value.str t1 239, Value.int 26 0, Value.int 0 0, Value.int 0 0, Value.int 0 0, Value.int 0 0, Value.ref 51, Value.bool false, Value.int 181 0, Value.ref 52, Value.none, Value.none, Value.none, Value.none, Value.int 240 0, Value.int 26 0, Value.str t1 241]) #[]
noncomputable def o33 : Params → Obj := fun P => Obj.mk (Value.type SL.s658472552662922059x5) none Data.plain #[some (Value.ref 53), some (Value.ref 3), some (Value.ref 50), none, some (Value.str t6 233), none, some (Value.ref 0)]
noncomputable def o34 : Params → Obj := fun P => Obj.mk (Value.type SL.s2766695959194262286x5) none (Data.seq #[Value.int 0 247, Value.int 0 248]) #[]
noncomputable def o35 : Params → Obj := fun P => Obj.mk (Value.type SL.s2766695959194262286x5) none (Data.seq #[Value.ref 55]) #[]
noncomputable def o36 : Params → Obj := fun P => Obj.mk (Value.type SL.s2766695959194262286x5) none (Data.seq #[Value.str t43 252, Value.str t44 253, Value.str t45 254]) #[]
noncomputable def o37 : Params → Obj := fun P => Obj.mk Value.none none (Data.func (FuncData.mk t40 t46 f7_0a f7_0b f7_0c 0 [] Value.none Value.none Value.none Value.none none Value.none Value.none 0)) #[]
noncomputable def o38 : Params → Obj := fun P => Obj.mk (Value.type SL.s5856160107412720595x4) none (Data.fields #[Value.str t40 249, Value.str t46 250, Value.str t1 251, Value.int 28 0, Value.int 3 0, Value.int 0 0, Value.int 0 0, Value.int 3 0, Value.ref 57, Value.bool true, Value.int 181 0, Value.ref 58, Value.none, Value.ref 59, Value.ref 60, Value.ref 61, Value.int 255 0, Value.int 28 0, Value.str t1 256]) #[]
noncomputable def o39 : Params → Obj := fun P => Obj.mk (Value.type SL.s7174869446012820540x8) none (Data.func (FuncData.mk t40 t46 f7_0a f7_0b f7_0c 3 [] (Value.ref 56) Value.none Value.none (Value.str t6 233) none (Value.ref 62) Value.none 0)) #[]
noncomputable def o40 : Params → Obj := fun P => Obj.mk (Value.type SL.s2766695959194262286x5) none (Data.seq #[Value.str t43 261]) #[]
noncomputable def o41 : Params → Obj := fun P => Obj.mk Value.none none (Data.func (FuncData.mk t41 t47 f7_1a f7_1b f7_1c 0 [] Value.none Value.none Value.none Value.none none Value.none Value.none 0)) #[]
noncomputable def o42 : Params → Obj := fun P => Obj.mk (Value.type SL.s5856160107412720595x4) none (Data.fields #[Value.str t41 258, Value.str t47 259, Value.str t1 260, Value.int 33 0, Value.int 1 0, Value.int 0 0, Value.int 0 0, Value.int 3 0, Value.ref 64, Value.bool true, Value.int 181 0, Value.ref 65, Value.none, Value.ref 66, Value.ref 67, Value.ref 68, Value.int 262 0, Value.int 33 0, Value.str t1 263]) #[]
noncomputable def o43 : Params → Obj := fun P => Obj.mk (Value.type SL.s7174869446012820540x8) none (Data.func (FuncData.mk t41 t47 f7_1a f7_1b f7_1c 3 [] Value.none Value.none Value.none (Value.str t6 233) none (Value.ref 69) Value.none 0)) #[]
noncomputable def o44 : Params → Obj := fun P => Obj.mk (Value.type SL.s2766695959194262286x5) none (Data.seq #[Value.str t45 265, Value.str t44 266]) #[]
noncomputable def o45 : Params → Obj := fun P => Obj.mk (Value.type SL.s14018661285674007319x4) none (Data.dict #[DictEntry.mk (PyData.keyHash P t37) (Value.str t37 242) (Value.str t6 233), DictEntry.mk (PyData.keyHash P t39) (Value.str t39 246) (Value.int 26 245), DictEntry.mk (PyData.keyHash P t40) (Value.str t40 257) (Value.ref 63), DictEntry.mk (PyData.keyHash P t41) (Value.str t41 264) (Value.ref 70), DictEntry.mk (PyData.keyHash P t42) (Value.str t42 267) (Value.ref 71), DictEntry.mk (PyData.keyHash P t48) (Value.str t48 269) (Value.ref 74), DictEntry.mk (PyData.keyHash P t7) (Value.str t7 270) Value.none] 3) #[]
noncomputable def o46 : Params → Obj := fun P => Obj.mk (Value.type SL.s17162191345867700912x4) none (Data.cls (ClassData.mk t20 [Value.type SL.s5946037652744460706x9] [Value.ref 73, Value.type SL.s5946037652744460706x9, Value.type SL.s4278001404047624695x13, Value.type SL.s2742458400755230247x6] 72 t20 true [] [] false none false)) #[some (Value.ref 48), none, some (Value.str t20 235), some (Value.str t20 243), some (Value.builtin SL.s5160863994218179198x17), some (Value.bool true)]
noncomputable def o47 : Params → Obj := fun P => Obj.mk (Value.type SL.s14755015743595814543x17) none (Data.fields #[Value.str t48 268, Value.ref 73, Value.builtin SL.s10220274742760427390x26, Value.none]) #[]
noncomputable def o48 : Params → Obj := fun P => Obj.mk (Value.type SL.s4290257624100764138x5) none (Data.fields #[Value.ref 73, Value.ref 73, Value.ref 73]) #[]
noncomputable def o49 : Params → Obj := fun P => Obj.mk (Value.type SL.s11030030927630378310x26) none (Data.fields #[Value.builtin SL.s4860613602091757760x24, Value.ref 73]) #[]
noncomputable def o50 : Params → Obj := fun P => Obj.mk (Value.type SL.s14018661285674007319x4) none (Data.dict #[DictEntry.mk (PyData.keyHash P t5) (Value.str t5 165) (Value.str t49 291), DictEntry.mk (PyData.keyHash P t7) (Value.str t7 166) Value.none, DictEntry.mk (PyData.keyHash P t8) (Value.str t8 167) Value.none, DictEntry.mk (PyData.keyHash P t9) (Value.str t9 168) (Value.builtin SL.s7097527257260152453x26), DictEntry.mk (PyData.keyHash P t10) (Value.str t10 169) Value.none, DictEntry.mk (PyData.keyHash P t11) (Value.str t11 170) (Value.ref 6), DictEntry.mk (PyData.keyHash P t12) (Value.str t12 171) (Value.ref 4), DictEntry.mk (PyData.keyHash P t13) (Value.str t13 173) (Value.str t1 172), DictEntry.mk (PyData.keyHash P t14) (Value.str t14 174) Value.none, DictEntry.mk (PyData.keyHash P t15) (Value.str t15 193) (Value.ref 21), DictEntry.mk (PyData.keyHash P t16) (Value.str t16 204) (Value.ref 26), DictEntry.mk (PyData.keyHash P t17) (Value.str t17 213) (Value.ref 33), DictEntry.mk (PyData.keyHash P t18) (Value.str t18 224) (Value.ref 40), DictEntry.mk (PyData.keyHash P t19) (Value.str t19 232) (Value.ref 47), DictEntry.mk (PyData.keyHash P t20) (Value.str t20 274) (Value.ref 73), DictEntry.mk (PyData.keyHash P t50) (Value.str t50 290) (Value.ref 86), DictEntry.mk (PyData.keyHash P t51) (Value.str t51 294) (Value.str resF 293), DictEntry.mk (PyData.keyHash P t52) (Value.str t52 301) (Value.ref 95)] 18) #[]
noncomputable def o51 : Params → Obj := fun P => Obj.mk Value.none none (Data.fields #[Value.int 1 0, Value.int 0 0, Value.ref 20, Value.int 6 0, Value.int 0 0, Value.ref 32, Value.int 11 0, Value.int 0 0, Value.ref 39, Value.int 22 0, Value.int 0 0, Value.ref 46, Value.int 26 0, Value.int 0 0, Value.ref 53, Value.int 35 0, Value.int 0 0, Value.ref 82, Value.int 39 0, Value.int 0 0, Value.ref 94]) #[]
noncomputable def o52 : Params → Obj := fun P => Obj.mk (Value.type SL.s17162191345867700912x4) none (Data.cls (ClassData.mk t20 [Value.type SL.s5946037652744460706x9] [Value.ref 73, Value.type SL.s5946037652744460706x9, Value.type SL.s4278001404047624695x13, Value.type SL.s2742458400755230247x6] 72 t20 true [] [Value.ref 86] false none false)) #[some (Value.ref 48), none, some (Value.str t20 235), some (Value.str t20 243), some (Value.builtin SL.s5160863994218179198x17), some (Value.bool true)]
noncomputable def o53 : Params → Obj := fun P => Obj.mk (Value.type SL.s2766695959194262286x5) none (Data.seq #[Value.ref 73]) #[]
noncomputable def o54 : Params → Obj := fun P => Obj.mk (Value.type SL.s14018661285674007319x4) none (Data.dict #[DictEntry.mk (PyData.keyHash P t37) (Value.str t37 282) (Value.str t6 233), DictEntry.mk (PyData.keyHash P t38) (Value.str t38 284) (Value.str t50 283), DictEntry.mk (PyData.keyHash P t39) (Value.str t39 286) (Value.int 35 285), DictEntry.mk (PyData.keyHash P t42) (Value.str t42 287) (Value.ref 84)] 4) #[]
noncomputable def o55 : Params → Obj := fun P => Obj.mk (Value.type SL.s5856160107412720595x4) none (Data.fields #[Value.str t50 277, Value.str t50 278, Value.str t1 279, Value.int 35 0, Value.int 0 0, Value.int 0 0, Value.int 0 0, Value.int 0 0, Value.ref 80, Value.bool false, Value.int 181 0, Value.ref 81, Value.none, Value.none, Value.none, Value.none, Value.int 280 0, Value.int 35 0, Value.str t1 281]) #[]
noncomputable def o56 : Params → Obj := fun P => Obj.mk (Value.type SL.s658472552662922059x5) none Data.plain #[some (Value.ref 82), some (Value.ref 3), some (Value.ref 79), none, some (Value.str t6 233), none, some (Value.ref 0)]
noncomputable def o57 : Params → Obj := fun P => Obj.mk (Value.type SL.s14018661285674007319x4) none (Data.dict #[DictEntry.mk (PyData.keyHash P t37) (Value.str t37 282) (Value.str t6 233), DictEntry.mk (PyData.keyHash P t39) (Value.str t39 286) (Value.int 35 285), DictEntry.mk (PyData.keyHash P t42) (Value.str t42 287) (Value.ref 84), DictEntry.mk (PyData.keyHash P t7) (Value.str t7 288) Value.none] 2) #[]
noncomputable def o58 : Params → Obj := fun P => Obj.mk (Value.type SL.s17162191345867700912x4) none (Data.cls (ClassData.mk t50 [Value.ref 73] [Value.ref 86, Value.ref 73, Value.type SL.s5946037652744460706x9, Value.type SL.s4278001404047624695x13, Value.type SL.s2742458400755230247x6] 85 t50 true [] [] false none false)) #[some (Value.ref 77), none, some (Value.str t50 275), some (Value.str t50 283), some (Value.builtin SL.s5160863994218179198x17), some (Value.bool true)]
noncomputable def o59 : Params → Obj := fun P => Obj.mk (Value.type SL.s4290257624100764138x5) none (Data.fields #[Value.ref 86, Value.ref 86, Value.ref 86]) #[]
noncomputable def o60 : Params → Obj := fun P => Obj.mk (Value.type SL.s11030030927630378310x26) none (Data.fields #[Value.builtin SL.s4860613602091757760x24, Value.ref 86]) #[]
noncomputable def o61 : Params → Obj := fun P => Obj.mk (Value.type SL.s2766695959194262286x5) none (Data.seq #[Value.str t31 298]) #[]
noncomputable def o62 : Params → Obj := fun P => Obj.mk Value.none none (Data.func (FuncData.mk t52 t52 f11a f11b f11c 0 [] Value.none Value.none Value.none Value.none none Value.none Value.none 0)) #[]
noncomputable def o63 : Params → Obj := fun P => Obj.mk (Value.type SL.s5856160107412720595x4) none (Data.fields #[Value.str t52 295, Value.str t52 296, Value.str t1 297, Value.int 39 0, Value.int 1 0, Value.int 0 0, Value.int 0 0, Value.int 3 0, Value.ref 89, Value.bool true, Value.int 181 0, Value.ref 90, Value.none, Value.ref 91, Value.ref 92, Value.ref 93, Value.int 299 0, Value.int 39 0, Value.str t1 300]) #[]
noncomputable def o64 : Params → Obj := fun P => Obj.mk (Value.type SL.s7174869446012820540x8) none (Data.func (FuncData.mk t52 t52 f11a f11b f11c 3 [] Value.none Value.none Value.none (Value.str t49 291) none (Value.ref 94) Value.none 0)) #[]
noncomputable def o65 : Params → Obj := fun P => Obj.mk (Value.type SL.s14018661285674007319x4) none (Data.dict #[DictEntry.mk (PyData.keyHash P t5) (Value.str t5 165) (Value.str t49 291), DictEntry.mk (PyData.keyHash P t7) (Value.str t7 166) Value.none, DictEntry.mk (PyData.keyHash P t8) (Value.str t8 167) Value.none, DictEntry.mk (PyData.keyHash P t9) (Value.str t9 168) (Value.builtin SL.s7097527257260152453x26), DictEntry.mk (PyData.keyHash P t10) (Value.str t10 169) Value.none, DictEntry.mk (PyData.keyHash P t11) (Value.str t11 170) (Value.ref 6), DictEntry.mk (PyData.keyHash P t12) (Value.str t12 171) (Value.ref 4), DictEntry.mk (PyData.keyHash P t13) (Value.str t13 173) (Value.str t1 172), DictEntry.mk (PyData.keyHash P t14) (Value.str t14 174) Value.none, DictEntry.mk (PyData.keyHash P t15) (Value.str t15 193) (Value.ref 21), DictEntry.mk (PyData.keyHash P t16) (Value.str t16 204) (Value.ref 26), DictEntry.mk (PyData.keyHash P t17) (Value.str t17 213) (Value.ref 33), DictEntry.mk (PyData.keyHash P t18) (Value.str t18 224) (Value.ref 40), DictEntry.mk (PyData.keyHash P t19) (Value.str t19 232) (Value.ref 47), DictEntry.mk (PyData.keyHash P t20) (Value.str t20 274) (Value.ref 73), DictEntry.mk (PyData.keyHash P t50) (Value.str t50 290) (Value.ref 86), DictEntry.mk (PyData.keyHash P t51) (Value.str t51 294) (Value.str resF 293), DictEntry.mk (PyData.keyHash P t52) (Value.str t52 301) (Value.ref 95), DictEntry.mk (PyData.keyHash P t53) (Value.str t53 503) (Value.ref 264)] 19) #[]
noncomputable def o66 : Params → Obj := fun P => Obj.mk Value.none none (Data.fields #[Value.int 1 0, Value.int 0 0, Value.ref 20, Value.int 6 0, Value.int 0 0, Value.ref 32, Value.int 11 0, Value.int 0 0, Value.ref 39, Value.int 22 0, Value.int 0 0, Value.ref 46, Value.int 26 0, Value.int 0 0, Value.ref 53, Value.int 35 0, Value.int 0 0, Value.ref 82, Value.int 39 0, Value.int 0 0, Value.ref 94, Value.int 41 0, Value.int 0 0, Value.ref 101]) #[]
noncomputable def o67 : Params → Obj := fun P => Obj.mk (Value.type SL.s14018661285674007319x4) none (Data.dict #[DictEntry.mk (PyData.keyHash P t37) (Value.str t37 309) (Value.str t49 291), DictEntry.mk (PyData.keyHash P t38) (Value.str t38 311) (Value.str t53 310), DictEntry.mk (PyData.keyHash P t39) (Value.str t39 313) (Value.int 41 312), DictEntry.mk (PyData.keyHash P t40) (Value.str t40 323) (Value.ref 110), DictEntry.mk (PyData.keyHash P t54) (Value.str t54 332) (Value.ref 118), DictEntry.mk (PyData.keyHash P t55) (Value.str t55 339) (Value.ref 125), DictEntry.mk (PyData.keyHash P t56) (Value.str t56 347) (Value.ref 132), DictEntry.mk (PyData.keyHash P t57) (Value.str t57 355) (Value.ref 139), DictEntry.mk (PyData.keyHash P t58) (Value.str t58 366) (Value.ref 147), DictEntry.mk (PyData.keyHash P t59) (Value.str t59 376) (Value.ref 154), DictEntry.mk (PyData.keyHash P t60) (Value.str t60 384) (Value.ref 161), DictEntry.mk (PyData.keyHash P t61) (Value.str t61 392) (Value.ref 168), DictEntry.mk (PyData.keyHash P t62) (Value.str t62 400) (Value.ref 175), DictEntry.mk (PyData.keyHash P t31) (Value.str t31 407) (Value.ref 182), DictEntry.mk (PyData.keyHash P t63) (Value.str t63 416) (Value.ref 190), DictEntry.mk (PyData.keyHash P t36) (Value.str t36 423) (Value.ref 197), DictEntry.mk (PyData.keyHash P t64) (Value.str t64 431) (Value.ref 204), DictEntry.mk (PyData.keyHash P t65) (Value.str t65 441) (Value.ref 212), DictEntry.mk (PyData.keyHash P t66) (Value.str t66 449) (Value.ref 219), DictEntry.mk (PyData.keyHash P t67) (Value.str t67 457) (Value.ref 226), DictEntry.mk (PyData.keyHash P t68) (Value.str t68 464) (Value.ref 233), DictEntry.mk (PyData.keyHash P t69) (Value.str t69 471) (Value.ref 240), DictEntry.mk (PyData.keyHash P t70) (Value.str t70 478) (Value.ref 247), DictEntry.mk (PyData.keyHash P t71) (Value.str t71 485) (Value.ref 254), DictEntry.mk (PyData.keyHash P t72) (Value.str t72 492) (Value.ref 261), DictEntry.mk (PyData.keyHash P t42) (Value.str t42 496) (Value.ref 262)] 26) #[]
noncomputable def o68 : Params → Obj := fun P => Obj.mk Value.none none (Data.fields #[Value.int 43 0, Value.int 4 0, Value.ref 109, Value.int 48 0, Value.int 4 0, Value.ref 117, Value.int 53 0, Value.int 4 0, Value.ref 124, Value.int 56 0, Value.int 4 0, Value.ref 131, Value.int 61 0, Value.int 4 0, Value.ref 138, Value.int 68 0, Value.int 4 0, Value.ref 146, Value.int 72 0, Value.int 4 0, Value.ref 153, Value.int 80 0, Value.int 4 0, Value.ref 160, Value.int 86 0, Value.int 4 0, Value.ref 167, Value.int 90 0, Value.int 4 0, Value.ref 174, Value.int 93 0, Value.int 4 0, Value.ref 181, Value.int 98 0, Value.int 4 0, Value.ref 189, Value.int 101 0, Value.int 4 0, Value.ref 196, Value.int 106 0, Value.int 4 0, Value.ref 203, Value.int 112 0, Value.int 4 0, Value.ref 211, Value.int 115 0, Value.int 4 0, Value.ref 218, Value.int 118 0, Value.int 4 0, Value.ref 225, Value.int 121 0, Value.int 4 0, Value.ref 232, Value.int 124 0, Value.int 4 0, Value.ref 239, Value.int 127 0, Value.int 4 0, Value.ref 246, Value.int 130 0, Value.int 4 0, Value.ref 253, Value.int 133 0, Value.int 4 0, Value.ref 260]) #[]
noncomputable def o69 : Params → Obj := fun P => Obj.mk (Value.type SL.s5856160107412720595x4) none (Data.fields #[Value.str t53 304, Value.str t53 305, Value.str t1 306, Value.int 41 0, Value.int 0 0, Value.int 0 0, Value.int 0 0, Value.int 0 0, Value.ref 99, Value.bool false, Value.int 181 0, Value.ref 100, Value.none, Value.none, Value.none, Value.none, Value.int 307 0, Value.int 41 0, Value.str t1 308]) #[]
noncomputable def o70 : Params → Obj := fun P => Obj.mk (Value.type SL.s658472552662922059x5) none Data.plain #[some (Value.ref 101), some (Value.ref 3), some (Value.ref 98), none, some (Value.str t49 291), none, some (Value.ref 0)]
noncomputable def o71 : Params → Obj := fun P => Obj.mk (Value.type SL.s2766695959194262286x5) none (Data.seq #[Value.int 0 314]) #[]
noncomputable def o72 : Params → Obj := fun P => Obj.mk (Value.type SL.s2766695959194262286x5) none (Data.seq #[Value.str t43 318, Value.str t73 319, Value.str t45 320]) #[]
noncomputable def o73 : Params → Obj := fun P => Obj.mk Value.none none (Data.func (FuncData.mk t40 t74 f12_0a f12_0b f12_0c 0 [] Value.none Value.none Value.none Value.none none Value.none Value.none 0)) #[]
noncomputable def o74 : Params → Obj := fun P => Obj.mk (Value.type SL.s5856160107412720595x4) none (Data.fields #[Value.str t40 315, Value.str t74 316, Value.str t1 317, Value.int 43 0, Value.int 3 0, Value.int 0 0, Value.int 0 0, Value.int 3 0, Value.ref 104, Value.bool true, Value.int 181 0, Value.ref 105, Value.none, Value.ref 106, Value.ref 107, Value.ref 108, Value.int 321 0, Value.int 43 0, Value.str t1 322]) #[]
noncomputable def o75 : Params → Obj := fun P => Obj.mk (Value.type SL.s7174869446012820540x8) none (Data.func (FuncData.mk t40 t74 f12_0a f12_0b f12_0c 3 [] (Value.ref 103) Value.none Value.none (Value.str t49 291) none (Value.ref 109) Value.none 0)) #[]
noncomputable def o76 : Params → Obj := fun P => Obj.mk (Value.type SL.s2766695959194262286x5) none (Data.seq #[Value.int 0 324]) #[]
noncomputable def o77 : Params → Obj := fun P => Obj.mk (Value.type SL.s2766695959194262286x5) none (Data.seq #[Value.str t43 328, Value.str t75 329]) #[]
noncomputable def o78 : Params → Obj := fun P => Obj.mk Value.none none (Data.func (FuncData.mk t54 t76 f12_1a f12_1b f12_1c 0 [] Value.none Value.none Value.none Value.none none Value.none Value.none 0)) #[]
noncomputable def o79 : Params → Obj := fun P => Obj.mk (Value.type SL.s5856160107412720595x4) none (Data.fields #[Value.str t54 325, Value.str t76 326, Value.str t1 327, Value.int 48 0, Value.int 2 0, Value.int 0 0, Value.int 0 0, Value.int 3 0, Value.ref 112, Value.bool true, Value.int 181 0, Value.ref 113, Value.none, Value.ref 114, Value.ref 115, Value.ref 116, Value.int 330 0, Value.int 48 0, Value.str t1 331]) #[]
noncomputable def o80 : Params → Obj := fun P => Obj.mk (Value.type SL.s7174869446012820540x8) none (Data.func (FuncData.mk t54 t76 f12_1a f12_1b f12_1c 3 [] (Value.ref 111) Value.none Value.none (Value.str t49 291) none (Value.ref 117) Value.none 0)) #[]
noncomputable def o81 : Params → Obj := fun P => Obj.mk (Value.type SL.s2766695959194262286x5) none (Data.seq #[Value.str t43 336]) #[]
noncomputable def o82 : Params → Obj := fun P => Obj.mk Value.none none (Data.func (FuncData.mk t55 t77 f12_2a f12_2b f12_2c 0 [] Value.none Value.none Value.none Value.none none Value.none Value.none 0)) #[]
noncomputable def o83 : Params → Obj := fun P => Obj.mk (Value.type SL.s5856160107412720595x4) none (Data.fields #[Value.str t55 333, Value.str t77 334, Value.str t1 335, Value.int 53 0, Value.int 1 0, Value.int 0 0, Value.int 0 0, Value.int 3 0, Value.ref 119, Value.bool true, Value.int 181 0, Value.ref 120, Value.none, Value.ref 121, Value.ref 122, Value.ref 123, Value.int 337 0, Value.int 53 0, Value.str t1 338]) #[]
noncomputable def o84 : Params → Obj := fun P => Obj.mk (Value.type SL.s7174869446012820540x8) none (Data.func (FuncData.mk t55 t77 f12_2a f12_2b f12_2c 3 [] Value.none Value.none Value.none (Value.str t49 291) none (Value.ref 124) Value.none 0)) #[]
noncomputable def o85 : Params → Obj := fun P => Obj.mk (Value.type SL.s2766695959194262286x5) none (Data.seq #[Value.str t43 343, Value.str t44 344]) #[]
noncomputable def o86 : Params → Obj := fun P => Obj.mk Value.none none (Data.func (FuncData.mk t56 t78 f12_3a f12_3b f12_3c 0 [] Value.none Value.none Value.none Value.none none Value.none Value.none 0)) #[]
noncomputable def o87 : Params → Obj := fun P => Obj.mk (Value.type SL.s5856160107412720595x4) none (Data.fields #[Value.str t56 340, Value.str t78 341, Value.str t1 342, Value.int 56 0, Value.int 2 0, Value.int 0 0, Value.int 0 0, Value.int 3 0, Value.ref 126, Value.bool true, Value.int 181 0, Value.ref 127, Value.none, Value.ref 128, Value.ref 129, Value.ref 130, Value.int 345 0, Value.int 56 0, Value.str t1 346]) #[]
noncomputable def o88 : Params → Obj := fun P => Obj.mk (Value.type SL.s7174869446012820540x8) none (Data.func (FuncData.mk t56 t78 f12_3a f12_3b f12_3c 3 [] Value.none Value.none Value.none (Value.str t49 291) none (Value.ref 131) Value.none 0)) #[]
noncomputable def o89 : Params → Obj := fun P => Obj.mk (Value.type SL.s2766695959194262286x5) none (Data.seq #[Value.str t43 351, Value.str t79 352]) #[]
noncomputable def o90 : Params → Obj := fun P => Obj.mk Value.none none (Data.func (FuncData.mk t57 t80 f12_4a f12_4b f12_4c 0 [] Value.none Value.none Value.none Value.none none Value.none Value.none 0)) #[]
noncomputable def o91 : Params → Obj := fun P => Obj.mk (Value.type SL.s5856160107412720595x4) none (Data.fields #[Value.str t57 348, Value.str t80 349, Value.str t1 350, Value.int 61 0, Value.int 1 0, Value.int 0 0, Value.int 0 0, Value.int 3 0, Value.ref 133, Value.bool true, Value.int 181 0, Value.ref 134, Value.none, Value.ref 135, Value.ref 136, Value.ref 137, Value.int 353 0, Value.int 61 0, Value.str t1 354]) #[]
noncomputable def o92 : Params → Obj := fun P => Obj.mk (Value.type SL.s7174869446012820540x8) none (Data.func (FuncData.mk t57 t80 f12_4a f12_4b f12_4c 3 [] Value.none Value.none Value.none (Value.str t49 291) none (Value.ref 138) Value.none 0)) #[]
noncomputable def o93 : Params → Obj := fun P => Obj.mk (Value.type SL.s2766695959194262286x5) none (Data.seq #[Value.int 0 356]) #[]
noncomputable def o94 : Params → Obj := fun P => Obj.mk (Value.type SL.s2766695959194262286x5) none (Data.seq #[Value.str t43 360, Value.str t81 361, Value.str t75 362, Value.str t79 363]) #[]
noncomputable def o95 : Params → Obj := fun P => Obj.mk Value.none none (Data.func (FuncData.mk t58 t82 f12_5a f12_5b f12_5c 0 [] Value.none Value.none Value.none Value.none none Value.none Value.none 0)) #[]
noncomputable def o96 : Params → Obj := fun P => Obj.mk (Value.type SL.s5856160107412720595x4) none (Data.fields #[Value.str t58 357, Value.str t82 358, Value.str t1 359, Value.int 68 0, Value.int 3 0, Value.int 0 0, Value.int 0 0, Value.int 3 0, Value.ref 141, Value.bool true, Value.int 181 0, Value.ref 142, Value.none, Value.ref 143, Value.ref 144, Value.ref 145, Value.int 364 0, Value.int 68 0, Value.str t1 365]) #[]
noncomputable def o97 : Params → Obj := fun P => Obj.mk (Value.type SL.s7174869446012820540x8) none (Data.func (FuncData.mk t58 t82 f12_5a f12_5b f12_5c 3 [] (Value.ref 140) Value.none Value.none (Value.str t49 291) none (Value.ref 146) Value.none 0)) #[]
noncomputable def o98 : Params → Obj := fun P => Obj.mk (Value.type SL.s2766695959194262286x5) none (Data.seq #[Value.str t43 370, Value.str t83 371, Value.str t75 372, Value.str t31 373]) #[]
noncomputable def o99 : Params → Obj := fun P => Obj.mk Value.none none (Data.func (FuncData.mk t59 t84 f12_6a f12_6b f12_6c 0 [] Value.none Value.none Value.none Value.none none Value.none Value.none 0)) #[]
noncomputable def o100 : Params → Obj := fun P => Obj.mk (Value.type SL.s5856160107412720595x4) none (Data.fields #[Value.str t59 367, Value.str t84 368, Value.str t1 369, Value.int 72 0, Value.int 2 0, Value.int 0 0, Value.int 0 0, Value.int 3 0, Value.ref 148, Value.bool true, Value.int 181 0, Value.ref 149, Value.none, Value.ref 150, Value.ref 151, Value.ref 152, Value.int 374 0, Value.int 72 0, Value.str t1 375]) #[]
noncomputable def o101 : Params → Obj := fun P => Obj.mk (Value.type SL.s7174869446012820540x8) none (Data.func (FuncData.mk t59 t84 f12_6a f12_6b f12_6c 3 [] Value.none Value.none Value.none (Value.str t49 291) none (Value.ref 153) Value.none 0)) #[]
noncomputable def o102 : Params → Obj := fun P => Obj.mk (Value.type SL.s2766695959194262286x5) none (Data.seq #[Value.str t43 380, Value.str t83 381]) #[]
noncomputable def o103 : Params → Obj := fun P => Obj.mk Value.none none (Data.func (FuncData.mk t60 t85 f12_7a f12_7b f12_7c 0 [] Value.none Value.none Value.none Value.none none Value.none Value.none 0)) #[]
noncomputable def o104 : Params → Obj := fun P => Obj.mk (Value.type SL.s5856160107412720595x4) none (Data.fields #[Value.str t60 377, Value.str t85 378, Value.str t1 379, Value.int 80 0, Value.int 2 0, Value.int 0 0, Value.int 0 0, Value.int 3 0, Value.ref 155, Value.bool true, Value.int 181 0, Value.ref 156, Value.none, Value.ref 157, Value.ref 158, Value.ref 159, Value.int 382 0, Value.int 80 0, Value.str t1 383]) #[]
noncomputable def o105 : Params → Obj := fun P => Obj.mk (Value.type SL.s7174869446012820540x8) none (Data.func (FuncData.mk t60 t85 f12_7a f12_7b f12_7c 3 [] Value.none Value.none Value.none (Value.str t49 291) none (Value.ref 160) Value.none 0)) #[]
noncomputable def o106 : Params → Obj := fun P => Obj.mk (Value.type SL.s2766695959194262286x5) none (Data.seq #[Value.str t43 388, Value.str t83 389]) #[]
noncomputable def o107 : Params → Obj := fun P => Obj.mk Value.none none (Data.func (FuncData.mk t61 t86 f12_8a f12_8b f12_8c 0 [] Value.none Value.none Value.none Value.none none Value.none Value.none 0)) #[]
noncomputable def o108 : Params → Obj := fun P => Obj.mk (Value.type SL.s5856160107412720595x4) none (Data.fields #[Value.str t61 385, Value.str t86 386, Value.str t1 387, Value.int 86 0, Value.int 2 0, Value.int 0 0, Value.int 0 0, Value.int 3 0, Value.ref 162, Value.bool true, Value.int 181 0, Value.ref 163, Value.none, Value.ref 164, Value.ref 165, Value.ref 166, Value.int 390 0, Value.int 86 0, Value.str t1 391]) #[]
noncomputable def o109 : Params → Obj := fun P => Obj.mk (Value.type SL.s7174869446012820540x8) none (Data.func (FuncData.mk t61 t86 f12_8a f12_8b f12_8c 3 [] Value.none Value.none Value.none (Value.str t49 291) none (Value.ref 167) Value.none 0)) #[]
noncomputable def o110 : Params → Obj := fun P => Obj.mk (Value.type SL.s2766695959194262286x5) none (Data.seq #[Value.str t43 396, Value.str t83 397]) #[]
noncomputable def o111 : Params → Obj := fun P => Obj.mk Value.none none (Data.func (FuncData.mk t62 t87 f12_9a f12_9b f12_9c 0 [] Value.none Value.none Value.none Value.none none Value.none Value.none 0)) #[]
noncomputable def o112 : Params → Obj := fun P => Obj.mk (Value.type SL.s5856160107412720595x4) none (Data.fields #[Value.str t62 393, Value.str t87 394, Value.str t1 395, Value.int 90 0, Value.int 2 0, Value.int 0 0, Value.int 0 0, Value.int 3 0, Value.ref 169, Value.bool true, Value.int 181 0, Value.ref 170, Value.none, Value.ref 171, Value.ref 172, Value.ref 173, Value.int 398 0, Value.int 90 0, Value.str t1 399]) #[]
noncomputable def o113 : Params → Obj := fun P => Obj.mk (Value.type SL.s7174869446012820540x8) none (Data.func (FuncData.mk t62 t87 f12_9a f12_9b f12_9c 3 [] Value.none Value.none Value.none (Value.str t49 291) none (Value.ref 174) Value.none 0)) #[]
noncomputable def o114 : Params → Obj := fun P => Obj.mk (Value.type SL.s2766695959194262286x5) none (Data.seq #[Value.str t43 404]) #[]
noncomputable def o115 : Params → Obj := fun P => Obj.mk Value.none none (Data.func (FuncData.mk t31 t88 f12_10a f12_10b f12_10c 0 [] Value.none Value.none Value.none Value.none none Value.none Value.none 0)) #[]
noncomputable def o116 : Params → Obj := fun P => Obj.mk (Value.type SL.s5856160107412720595x4) none (Data.fields #[Value.str t31 401, Value.str t88 402, Value.str t1 403, Value.int 93 0, Value.int 1 0, Value.int 0 0, Value.int 0 0, Value.int 3 0, Value.ref 176, Value.bool true, Value.int 181 0, Value.ref 177, Value.none, Value.ref 178, Value.ref 179, Value.ref 180, Value.int 405 0, Value.int 93 0, Value.str t1 406]) #[]
noncomputable def o117 : Params → Obj := fun P => Obj.mk (Value.type SL.s7174869446012820540x8) none (Data.func (FuncData.mk t31 t88 f12_10a f12_10b f12_10c 3 [] Value.none Value.none Value.none (Value.str t49 291) none (Value.ref 181) Value.none 0)) #[]
noncomputable def o118 : Params → Obj := fun P => Obj.mk (Value.type SL.s2766695959194262286x5) none (Data.seq #[Value.int 0 408]) #[]
noncomputable def o119 : Params → Obj := fun P => Obj.mk (Value.type SL.s2766695959194262286x5) none (Data.seq #[Value.str t43 412, Value.str t75 413]) #[]
noncomputable def o120 : Params → Obj := fun P => Obj.mk Value.none none (Data.func (FuncData.mk t63 t89 f12_11a f12_11b f12_11c 0 [] Value.none Value.none Value.none Value.none none Value.none Value.none 0)) #[]
noncomputable def o121 : Params → Obj := fun P => Obj.mk (Value.type SL.s5856160107412720595x4) none (Data.fields #[Value.str t63 409, Value.str t89 410, Value.str t1 411, Value.int 98 0, Value.int 2 0, Value.int 0 0, Value.int 0 0, Value.int 3 0, Value.ref 184, Value.bool true, Value.int 181 0, Value.ref 185, Value.none, Value.ref 186, Value.ref 187, Value.ref 188, Value.int 414 0, Value.int 98 0, Value.str t1 415]) #[]
noncomputable def o122 : Params → Obj := fun P => Obj.mk (Value.type SL.s7174869446012820540x8) none (Data.func (FuncData.mk t63 t89 f12_11a f12_11b f12_11c 3 [] (Value.ref 183) Value.none Value.none (Value.str t49 291) none (Value.ref 189) Value.none 0)) #[]
noncomputable def o123 : Params → Obj := fun P => Obj.mk (Value.type SL.s2766695959194262286x5) none (Data.seq #[Value.str t43 420]) #[]
noncomputable def o124 : Params → Obj := fun P => Obj.mk Value.none none (Data.func (FuncData.mk t36 t90 f12_12a f12_12b f12_12c 0 [] Value.none Value.none Value.none Value.none none Value.none Value.none 0)) #[]
noncomputable def o125 : Params → Obj := fun P => Obj.mk (Value.type SL.s5856160107412720595x4) none (Data.fields #[Value.str t36 417, Value.str t90 418, Value.str t1 419, Value.int 101 0, Value.int 1 0, Value.int 0 0, Value.int 0 0, Value.int 3 0, Value.ref 191, Value.bool true, Value.int 181 0, Value.ref 192, Value.none, Value.ref 193, Value.ref 194, Value.ref 195, Value.int 421 0, Value.int 101 0, Value.str t1 422]) #[]
noncomputable def o126 : Params → Obj := fun P => Obj.mk (Value.type SL.s7174869446012820540x8) none (Data.func (FuncData.mk t36 t90 f12_12a f12_12b f12_12c 3 [] Value.none Value.none Value.none (Value.str t49 291) none (Value.ref 196) Value.none 0)) #[]
noncomputable def o127 : Params → Obj := fun P => Obj.mk (Value.type SL.s2766695959194262286x5) none (Data.seq #[Value.str t43 427, Value.str t91 428]) #[]
noncomputable def o128 : Params → Obj := fun P => Obj.mk Value.none none (Data.func (FuncData.mk t64 t92 f12_13a f12_13b f12_13c 0 [] Value.none Value.none Value.none Value.none none Value.none Value.none 0)) #[]
noncomputable def o129 : Params → Obj := fun P => Obj.mk (Value.type SL.s5856160107412720595x4) none (Data.fields #[Value.str t64 424, Value.str t92 425, Value.str t1 426, Value.int 106 0, Value.int 1 0, Value.int 0 0, Value.int 0 0, Value.int 3 0, Value.ref 198, Value.bool true, Value.int 181 0, Value.ref 199, Value.none, Value.ref 200, Value.ref 201, Value.ref 202, Value.int 429 0, Value.int 106 0, Value.str t1 430]) #[]
noncomputable def o130 : Params → Obj := fun P => Obj.mk (Value.type SL.s7174869446012820540x8) none (Data.func (FuncData.mk t64 t92 f12_13a f12_13b f12_13c 3 [] Value.none Value.none Value.none (Value.str t49 291) none (Value.ref 203) Value.none 0)) #[]
noncomputable def o131 : Params → Obj := fun P => Obj.mk (Value.type SL.s2766695959194262286x5) none (Data.seq #[Value.int 0 432]) #[]
noncomputable def o132 : Params → Obj := fun P => Obj.mk (Value.type SL.s2766695959194262286x5) none (Data.seq #[Value.str t43 436, Value.str t93 437, Value.str t75 438]) #[]
noncomputable def o133 : Params → Obj := fun P => Obj.mk Value.none none (Data.func (FuncData.mk t65 t94 f12_14a f12_14b f12_14c 0 [] Value.none Value.none Value.none Value.none none Value.none Value.none 0)) #[]
noncomputable def o134 : Params → Obj := fun P => Obj.mk (Value.type SL.s5856160107412720595x4) none (Data.fields #[Value.str t65 433, Value.str t94 434, Value.str t1 435, Value.int 112 0, Value.int 3 0, Value.int 0 0, Value.int 0 0, Value.int 3 0, Value.ref 206, Value.bool true, Value.int 181 0, Value.ref 207, Value.none, Value.ref 208, Value.ref 209, Value.ref 210, Value.int 439 0, Value.int 112 0, Value.str t1 440]) #[]
noncomputable def o135 : Params → Obj := fun P => Obj.mk (Value.type SL.s7174869446012820540x8) none (Data.func (FuncData.mk t65 t94 f12_14a f12_14b f12_14c 3 [] (Value.ref 205) Value.none Value.none (Value.str t49 291) none (Value.ref 211) Value.none 0)) #[]
noncomputable def o136 : Params → Obj := fun P => Obj.mk (Value.type SL.s2766695959194262286x5) none (Data.seq #[Value.str t43 445, Value.str t93 446]) #[]
noncomputable def o137 : Params → Obj := fun P => Obj.mk Value.none none (Data.func (FuncData.mk t66 t95 f12_15a f12_15b f12_15c 0 [] Value.none Value.none Value.none Value.none none Value.none Value.none 0)) #[]
noncomputable def o138 : Params → Obj := fun P => Obj.mk (Value.type SL.s5856160107412720595x4) none (Data.fields #[Value.str t66 442, Value.str t95 443, Value.str t1 444, Value.int 115 0, Value.int 2 0, Value.int 0 0, Value.int 0 0, Value.int 3 0, Value.ref 213, Value.bool true, Value.int 181 0, Value.ref 214, Value.none, Value.ref 215, Value.ref 216, Value.ref 217, Value.int 447 0, Value.int 115 0, Value.str t1 448]) #[]
noncomputable def o139 : Params → Obj := fun P => Obj.mk (Value.type SL.s7174869446012820540x8) none (Data.func (FuncData.mk t66 t95 f12_15a f12_15b f12_15c 3 [] Value.none Value.none Value.none (Value.str t49 291) none (Value.ref 218) Value.none 0)) #[]
noncomputable def o140 : Params → Obj := fun P => Obj.mk (Value.type SL.s2766695959194262286x5) none (Data.seq #[Value.str t43 453, Value.str t93 454]) #[]
noncomputable def o141 : Params → Obj := fun P => Obj.mk Value.none none (Data.func (FuncData.mk t67 t96 f12_16a f12_16b f12_16c 0 [] Value.none Value.none Value.none Value.none none Value.none Value.none 0)) #[]
noncomputable def o142 : Params → Obj := fun P => Obj.mk (Value.type SL.s5856160107412720595x4) none (Data.fields #[Value.str t67 450, Value.str t96 451, Value.str t1 452, Value.int 118 0, Value.int 2 0, Value.int 0 0, Value.int 0 0, Value.int 3 0, Value.ref 220, Value.bool true, Value.int 181 0, Value.ref 221, Value.none, Value.ref 222, Value.ref 223, Value.ref 224, Value.int 455 0, Value.int 118 0, Value.str t1 456]) #[]
noncomputable def o143 : Params → Obj := fun P => Obj.mk (Value.type SL.s7174869446012820540x8) none (Data.func (FuncData.mk t67 t96 f12_16a f12_16b f12_16c 3 [] Value.none Value.none Value.none (Value.str t49 291) none (Value.ref 225) Value.none 0)) #[]
noncomputable def o144 : Params → Obj := fun P => Obj.mk (Value.type SL.s2766695959194262286x5) none (Data.seq #[Value.str t43 461]) #[]
noncomputable def o145 : Params → Obj := fun P => Obj.mk Value.none none (Data.func (FuncData.mk t68 t97 f12_17a f12_17b f12_17c 0 [] Value.none Value.none Value.none Value.none none Value.none Value.none 0)) #[]
noncomputable def o146 : Params → Obj := fun P => Obj.mk (Value.type SL.s5856160107412720595x4) none (Data.fields #[Value.str t68 458, Value.str t97 459, Value.str t1 460, Value.int 121 0, Value.int 1 0, Value.int 0 0, Value.int 0 0, Value.int 3 0, Value.ref 227, Value.bool true, Value.int 181 0, Value.ref 228, Value.none, Value.ref 229, Value.ref 230, Value.ref 231, Value.int 462 0, Value.int 121 0, Value.str t1 463]) #[]
noncomputable def o147 : Params → Obj := fun P => Obj.mk (Value.type SL.s7174869446012820540x8) none (Data.func (FuncData.mk t68 t97 f12_17a f12_17b f12_17c 3 [] Value.none Value.none Value.none (Value.str t49 291) none (Value.ref 232) Value.none 0)) #[]
noncomputable def o148 : Params → Obj := fun P => Obj.mk (Value.type SL.s2766695959194262286x5) none (Data.seq #[Value.str t43 468]) #[]
noncomputable def o149 : Params → Obj := fun P => Obj.mk Value.none none (Data.func (FuncData.mk t69 t98 f12_18a f12_18b f12_18c 0 [] Value.none Value.none Value.none Value.none none Value.none Value.none 0)) #[]
noncomputable def o150 : Params → Obj := fun P => Obj.mk (Value.type SL.s5856160107412720595x4) none (Data.fields #[Value.str t69 465, Value.str t98 466, Value.str t1 467, Value.int 124 0, Value.int 1 0, Value.int 0 0, Value.int 0 0, Value.int 3 0, Value.ref 234, Value.bool true, Value.int 181 0, Value.ref 235, Value.none, Value.ref 236, Value.ref 237, Value.ref 238, Value.int 469 0, Value.int 124 0, Value.str t1 470]) #[]
noncomputable def o151 : Params → Obj := fun P => Obj.mk (Value.type SL.s7174869446012820540x8) none (Data.func (FuncData.mk t69 t98 f12_18a f12_18b f12_18c 3 [] Value.none Value.none Value.none (Value.str t49 291) none (Value.ref 239) Value.none 0)) #[]
noncomputable def o152 : Params → Obj := fun P => Obj.mk (Value.type SL.s2766695959194262286x5) none (Data.seq #[Value.str t43 475]) #[]
noncomputable def o153 : Params → Obj := fun P => Obj.mk Value.none none (Data.func (FuncData.mk t70 t99 f12_19a f12_19b f12_19c 0 [] Value.none Value.none Value.none Value.none none Value.none Value.none 0)) #[]
noncomputable def o154 : Params → Obj := fun P => Obj.mk (Value.type SL.s5856160107412720595x4) none (Data.fields #[Value.str t70 472, Value.str t99 473, Value.str t1 474, Value.int 127 0, Value.int 1 0, Value.int 0 0, Value.int 0 0, Value.int 3 0, Value.ref 241, Value.bool true, Value.int 181 0, Value.ref 242, Value.none, Value.ref 243, Value.ref 244, Value.ref 245, Value.int 476 0, Value.int 127 0, Value.str t1 477]) #[]
noncomputable def o155 : Params → Obj := fun P => Obj.mk (Value.type SL.s7174869446012820540x8) none (Data.func (FuncData.mk t70 t99 f12_19a f12_19b f12_19c 3 [] Value.none Value.none Value.none (Value.str t49 291) none (Value.ref 246) Value.none 0)) #[]
noncomputable def o156 : Params → Obj := fun P => Obj.mk (Value.type SL.s2766695959194262286x5) none (Data.seq #[Value.str t43 482]) #[]
noncomputable def o157 : Params → Obj := fun P => Obj.mk Value.none none (Data.func (FuncData.mk t71 t100 f12_20a f12_20b f12_20c 0 [] Value.none Value.none Value.none Value.none none Value.none Value.none 0)) #[]
noncomputable def o158 : Params → Obj := fun P => Obj.mk (Value.type SL.s5856160107412720595x4) none (Data.fields #[Value.str t71 479, Value.str t100 480, Value.str t1 481, Value.int 130 0, Value.int 1 0, Value.int 0 0, Value.int 0 0, Value.int 3 0, Value.ref 248, Value.bool true, Value.int 181 0, Value.ref 249, Value.none, Value.ref 250, Value.ref 251, Value.ref 252, Value.int 483 0, Value.int 130 0, Value.str t1 484]) #[]
noncomputable def o159 : Params → Obj := fun P => Obj.mk (Value.type SL.s7174869446012820540x8) none (Data.func (FuncData.mk t71 t100 f12_20a f12_20b f12_20c 3 [] Value.none Value.none Value.none (Value.str t49 291) none (Value.ref 253) Value.none 0)) #[]
noncomputable def o160 : Params → Obj := fun P => Obj.mk (Value.type SL.s2766695959194262286x5) none (Data.seq #[Value.str t43 489]) #[]
noncomputable def o161 : Params → Obj := fun P => Obj.mk Value.none none (Data.func (FuncData.mk t72 t101 f12_21a f12_21b f12_21c 0 [] Value.none Value.none Value.none Value.none none Value.none Value.none 0)) #[]
noncomputable def o162 : Params → Obj := fun P => Obj.mk (Value.type SL.s5856160107412720595x4) none (Data.fields #[Value.str t72 486, Value.str t101 487, Value.str t1 488, Value.int 133 0, Value.int 1 0, Value.int 0 0, Value.int 0 0, Value.int 3 0, Value.ref 255, Value.bool true, Value.int 181 0, Value.ref 256, Value.none, Value.ref 257, Value.ref 258, Value.ref 259, Value.int 490 0, Value.int 133 0, Value.str t1 491]) #[]
noncomputable def o163 : Params → Obj := fun P => Obj.mk (Value.type SL.s7174869446012820540x8) none (Data.func (FuncData.mk t72 t101 f12_21a f12_21b f12_21c 3 [] Value.none Value.none Value.none (Value.str t49 291) none (Value.ref 260) Value.none 0)) #[]
noncomputable def o164 : Params → Obj := fun P => Obj.mk (Value.type SL.s2766695959194262286x5) none (Data.seq #[Value.str t45 493, Value.str t102 494, Value.str t73 495]) #[]
noncomputable def o165 : Params → Obj := fun P => Obj.mk (Value.type SL.s14018661285674007319x4) none (Data.dict #[DictEntry.mk (PyData.keyHash P t37) (Value.str t37 309) (Value.str t49 291), DictEntry.mk (PyData.keyHash P t39) (Value.str t39 313) (Value.int 41 312), DictEntry.mk (PyData.keyHash P t40) (Value.str t40 323) (Value.ref 110), DictEntry.mk (PyData.keyHash P t54) (Value.str t54 332) (Value.ref 118), DictEntry.mk (PyData.keyHash P t55) (Value.str t55 339) (Value.ref 125), DictEntry.mk (PyData.keyHash P t56) (Value.str t56 347) (Value.ref 132), DictEntry.mk (PyData.keyHash P t57) (Value.str t57 355) (Value.ref 139), DictEntry.mk (PyData.keyHash P t58) (Value.str t58 366) (Value.ref 147), DictEntry.mk (PyData.keyHash P t59) (Value.str t59 376) (Value.ref 154), DictEntry.mk (PyData.keyHash P t60) (Value.str t60 384) (Value.ref 161), DictEntry.mk (PyData.keyHash P t61) (Value.str t61 392) (Value.ref 168), DictEntry.mk (PyData.keyHash P t62) (Value.str t62 400) (Value.ref 175), DictEntry.mk (PyData.keyHash P t31) (Value.str t31 407) (Value.ref 182), DictEntry.mk (PyData.keyHash P t63) (Value.str t63 416) (Value.ref 190), DictEntry.mk (PyData.keyHash P t36) (Value.str t36 423) (Value.ref 197), DictEntry.mk (PyData.keyHash P t64) (Value.str t64 431) (Value.ref 204), DictEntry.mk (PyData.keyHash P t65) (Value.str t65 441) (Value.ref 212), DictEntry.mk (PyData.keyHash P t66) (Value.str t66 449) (Value.ref 219), DictEntry.mk (PyData.keyHash P t67) (Value.str t67 457) (Value.ref 226), DictEntry.mk (PyData.keyHash P t68) (Value.str t68 464) (Value.ref 233), DictEntry.mk (PyData.keyHash P t69) (Value.str t69 471) (Value.ref 240), DictEntry.mk (PyData.keyHash P t70) (Value.str t70 478) (Value.ref 247), DictEntry.mk (PyData.keyHash P t71) (Value.str t71 485) (Value.ref 254), DictEntry.mk (PyData.keyHash P t72) (Value.str t72 492) (Value.ref 261), DictEntry.mk (PyData.keyHash P t42) (Value.str t42 496) (Value.ref 262), DictEntry.mk (PyData.keyHash P t103) (Value.str t103 498) (Value.ref 265), DictEntry.mk (PyData.keyHash P t48) (Value.str t48 500) (Value.ref 266), DictEntry.mk (PyData.keyHash P t7) (Value.str t7 501) Value.none] 4) #[]
noncomputable def o166 : Params → Obj := fun P => Obj.mk (Value.type SL.s17162191345867700912x4) none (Data.cls (ClassData.mk t53 [Value.type SL.s2742458400755230247x6] [Value.ref 264, Value.type SL.s2742458400755230247x6] 263 t53 true [] [] false none false)) #[none, none, some (Value.str t53 302), some (Value.str t53 310), some (Value.builtin SL.s11443829558043349243x14), some (Value.bool true)]
noncomputable def o167 : Params → Obj := fun P => Obj.mk (Value.type SL.s14755015743595814543x17) none (Data.fields #[Value.str t103 497, Value.ref 264, Value.builtin SL.s6511155373996960695x17, Value.builtin SL.s12411053484034534018x21]) #[]
noncomputable def o168 : Params → Obj := fun P => Obj.mk (Value.type SL.s14755015743595814543x17) none (Data.fields #[Value.str t48 499, Value.ref 264, Value.builtin SL.s10220274742760427390x26, Value.none]) #[]
noncomputable def o169 : Params → Obj := fun P => Obj.mk (Value.type SL.s4290257624100764138x5) none (Data.fields #[Value.ref 264, Value.ref 264, Value.ref 264]) #[]
noncomputable def o170 : Params → Obj := fun P => Obj.mk (Value.type SL.s11030030927630378310x26) none (Data.fields #[Value.builtin SL.s4860613602091757760x24, Value.ref 264]) #[]
noncomputable def o171 : Params → Obj := fun P => Obj.mk (Value.type SL.s14018661285674007319x4) none (Data.dict #[DictEntry.mk (PyData.keyHash P t5) (Value.str t5 165) (Value.str t104 550), DictEntry.mk (PyData.keyHash P t7) (Value.str t7 166) Value.none, DictEntry.mk (PyData.keyHash P t8) (Value.str t8 167) Value.none, DictEntry.mk (PyData.keyHash P t9) (Value.str t9 168) (Value.builtin SL.s7097527257260152453x26), DictEntry.mk (PyData.keyHash P t10) (Value.str t10 169) Value.none, DictEntry.mk (PyData.keyHash P t11) (Value.str t11 170) (Value.ref 6), DictEntry.mk (PyData.keyHash P t12) (Value.str t12 171) (Value.ref 4), DictEntry.mk (PyData.keyHash P t13) (Value.str t13 173) (Value.str t1 172), DictEntry.mk (PyData.keyHash P t14) (Value.str t14 174) Value.none, DictEntry.mk (PyData.keyHash P t15) (Value.str t15 193) (Value.ref 21), DictEntry.mk (PyData.keyHash P t16) (Value.str t16 204) (Value.ref 26), DictEntry.mk (PyData.keyHash P t17) (Value.str t17 213) (Value.ref 33), DictEntry.mk (PyData.keyHash P t18) (Value.str t18 224) (Value.ref 40), DictEntry.mk (PyData.keyHash P t19) (Value.str t19 232) (Value.ref 47), DictEntry.mk (PyData.keyHash P t20) (Value.str t20 274) (Value.ref 73), DictEntry.mk (PyData.keyHash P t50) (Value.str t50 290) (Value.ref 86), DictEntry.mk (PyData.keyHash P t51) (Value.str t51 294) (Value.str resF 293), DictEntry.mk (PyData.keyHash P t52) (Value.str t52 301) (Value.ref 95), DictEntry.mk (PyData.keyHash P t53) (Value.str t53 503) (Value.ref 264), DictEntry.mk (PyData.keyHash P t105) (Value.str t105 549) (Value.ref 294), DictEntry.mk (PyData.keyHash P t106) (Value.str t106 560) (Value.ref 303), DictEntry.mk (PyData.keyHash P t107) (Value.str t107 566) (Value.ref 308), DictEntry.mk (PyData.keyHash P t108) (Value.str t108 572) (Value.ref 313)] 23) #[]
noncomputable def o172 : Params → Obj := fun P => Obj.mk Value.none none (Data.fields #[Value.int 1 0, Value.int 0 0, Value.ref 20, Value.int 6 0, Value.int 0 0, Value.ref 32, Value.int 11 0, Value.int 0 0, Value.ref 39, Value.int 22 0, Value.int 0 0, Value.ref 46, Value.int 26 0, Value.int 0 0, Value.ref 53, Value.int 35 0, Value.int 0 0, Value.ref 82, Value.int 39 0, Value.int 0 0, Value.ref 94, Value.int 41 0, Value.int 0 0, Value.ref 101, Value.int 136 0, Value.int 0 0, Value.ref 274, Value.int 148 0, Value.int 0 0, Value.ref 307, Value.int 152 0, Value.int 0 0, Value.ref 312]) #[]
noncomputable def o173 : Params → Obj := fun P => Obj.mk (Value.type SL.s14018661285674007319x4) none (Data.dict #[DictEntry.mk (PyData.keyHash P t37) (Value.str t37 513) (Value.str t109 504), DictEntry.mk (PyData.keyHash P t38) (Value.str t38 515) (Value.str t105 514), DictEntry.mk (PyData.keyHash P t39) (Value.str t39 517) (Value.int 136 516), DictEntry.mk (PyData.keyHash P t40) (Value.str t40 530) (Value.ref 284), DictEntry.mk (PyData.keyHash P t41) (Value.str t41 537) (Value.ref 291), DictEntry.mk (PyData.keyHash P t42) (Value.str t42 542) (Value.ref 292)] 6) #[]
noncomputable def o174 : Params → Obj := fun P => Obj.mk Value.none none (Data.fields #[Value.int 138 0, Value.int 4 0, Value.ref 283, Value.int 144 0, Value.int 4 0, Value.ref 290]) #[]
noncomputable def o175 : Params → Obj := fun P => Obj.mk (Value.type SL.s5856160107412720595x4) none (Data.fields #[Value.str t105 508, Value.str t105 509, Value.str t1 510, Value.int 136 0, Value.int 0 0, Value.int 0 0, Value.int 0 0, Value.int 0 0, Value.ref 272, Value.bool false, Value.int 181 0, Value.ref 273, Value.none, Value.none, Value.none, Value.none, Value.int 511 0, Value.int 136 0, Value.str t1 512]) #[]
noncomputable def o176 : Params → Obj := fun P => Obj.mk (Value.type SL.s658472552662922059x5) none Data.plain #[some (Value.ref 274), some (Value.ref 3), some (Value.ref 271), none, some (Value.str t109 504), none, some (Value.ref 0)]
noncomputable def o177 : Params → Obj := fun P => Obj.mk (Value.type SL.s2766695959194262286x5) none (Data.seq #[Value.int 0 518, Value.int 0 519]) #[]
noncomputable def o178 : Params → Obj := fun P => Obj.mk (Value.type SL.s2766695959194262286x5) none (Data.seq #[Value.ref 276, Value.bool false]) #[]
noncomputable def o179 : Params → Obj := fun P => Obj.mk (Value.type SL.s2766695959194262286x5) none (Data.seq #[Value.str t43 523, Value.str t81 524, Value.str t110 525, Value.str t45 526, Value.str t111 527]) #[]
noncomputable def o180 : Params → Obj := fun P => Obj.mk Value.none none (Data.func (FuncData.mk t40 t112 f14_0a f14_0b f14_0c 0 [] Value.none Value.none Value.none Value.none none Value.none Value.none 0)) #[]
noncomputable def o181 : Params → Obj := fun P => Obj.mk (Value.type SL.s5856160107412720595x4) none (Data.fields #[Value.str t40 520, Value.str t112 521, Value.str t1 522, Value.int 138 0, Value.int 5 0, Value.int 0 0, Value.int 0 0, Value.int 3 0, Value.ref 278, Value.bool true, Value.int 181 0, Value.ref 279, Value.none, Value.ref 280, Value.ref 281, Value.ref 282, Value.int 528 0, Value.int 138 0, Value.str t1 529]) #[]
noncomputable def o182 : Params → Obj := fun P => Obj.mk (Value.type SL.s7174869446012820540x8) none (Data.func (FuncData.mk t40 t112 f14_0a f14_0b f14_0c 3 [] (Value.ref 277) Value.none Value.none (Value.str t109 504) none (Value.ref 283) Value.none 0)) #[]
noncomputable def o183 : Params → Obj := fun P => Obj.mk (Value.type SL.s2766695959194262286x5) none (Data.seq #[Value.str t43 534]) #[]
noncomputable def o184 : Params → Obj := fun P => Obj.mk Value.none none (Data.func (FuncData.mk t41 t113 f14_1a f14_1b f14_1c 0 [] Value.none Value.none Value.none Value.none none Value.none Value.none 0)) #[]
noncomputable def o185 : Params → Obj := fun P => Obj.mk (Value.type SL.s5856160107412720595x4) none (Data.fields #[Value.str t41 531, Value.str t113 532, Value.str t1 533, Value.int 144 0, Value.int 1 0, Value.int 0 0, Value.int 0 0, Value.int 3 0, Value.ref 285, Value.bool true, Value.int 181 0, Value.ref 286, Value.none, Value.ref 287, Value.ref 288, Value.ref 289, Value.int 535 0, Value.int 144 0, Value.str t1 536]) #[]
noncomputable def o186 : Params → Obj := fun P => Obj.mk (Value.type SL.s7174869446012820540x8) none (Data.func (FuncData.mk t41 t113 f14_1a f14_1b f14_1c 3 [] Value.none Value.none Value.none (Value.str t109 504) none (Value.ref 290) Value.none 0)) #[]
noncomputable def o187 : Params → Obj := fun P => Obj.mk (Value.type SL.s2766695959194262286x5) none (Data.seq #[Value.str t45 538, Value.str t111 539, Value.str t81 540, Value.str t110 541]) #[]
noncomputable def o188 : Params → Obj := fun P => Obj.mk (Value.type SL.s14018661285674007319x4) none (Data.dict #[DictEntry.mk (PyData.keyHash P t37) (Value.str t37 513) (Value.str t109 504), DictEntry.mk (PyData.keyHash P t39) (Value.str t39 517) (Value.int 136 516), DictEntry.mk (PyData.keyHash P t40) (Value.str t40 530) (Value.ref 284), DictEntry.mk (PyData.keyHash P t41) (Value.str t41 537) (Value.ref 291), DictEntry.mk (PyData.keyHash P t42) (Value.str t42 542) (Value.ref 292), DictEntry.mk (PyData.keyHash P t103) (Value.str t103 544) (Value.ref 295), DictEntry.mk (PyData.keyHash P t48) (Value.str t48 546) (Value.ref 296), DictEntry.mk (PyData.keyHash P t7) (Value.str t7 547) Value.none] 4) #[]
noncomputable def o189 : Params → Obj := fun P => Obj.mk (Value.type SL.s17162191345867700912x4) none (Data.cls (ClassData.mk t105 [Value.type SL.s2742458400755230247x6] [Value.ref 294, Value.type SL.s2742458400755230247x6] 293 t105 true [] [] false none false)) #[none, none, some (Value.str t105 506), some (Value.str t105 514), some (Value.builtin SL.s11443829558043349243x14), some (Value.bool true)]
noncomputable def o190 : Params → Obj := fun P => Obj.mk (Value.type SL.s14755015743595814543x17) none (Data.fields #[Value.str t103 543, Value.ref 294, Value.builtin SL.s6511155373996960695x17, Value.builtin SL.s12411053484034534018x21]) #[]
noncomputable def o191 : Params → Obj := fun P => Obj.mk (Value.type SL.s14755015743595814543x17) none (Data.fields #[Value.str t48 545, Value.ref 294, Value.builtin SL.s10220274742760427390x26, Value.none]) #[]
noncomputable def o192 : Params → Obj := fun P => Obj.mk (Value.type SL.s4290257624100764138x5) none (Data.fields #[Value.ref 294, Value.ref 294, Value.ref 294]) #[]
noncomputable def o193 : Params → Obj := fun P => Obj.mk (Value.type SL.s11030030927630378310x26) none (Data.fields #[Value.builtin SL.s4860613602091757760x24, Value.ref 294]) #[]
noncomputable def o194 : Params → Obj := fun P => Obj.mk (Value.type SL.s2766695959194262286x5) none (Data.seq #[Value.str t22 552, Value.str t23 553]) #[]
noncomputable def o195 : Params → Obj := fun P => Obj.mk (Value.type SL.s2766695959194262286x5) none (Data.seq #[Value.str t24 554, Value.str t25 555]) #[]
noncomputable def o196 : Params → Obj := fun P => Obj.mk (Value.type SL.s2766695959194262286x5) none (Data.seq #[Value.str t26 556, Value.str t27 557]) #[]
noncomputable def o197 : Params → Obj := fun P => Obj.mk (Value.type SL.s2766695959194262286x5) none (Data.seq #[Value.str t28 558, Value.str t29 559]) #[]
noncomputable def o198 : Params → Obj := fun P => Obj.mk (Value.type SL.s2766695959194262286x5) none (Data.seq #[Value.ref 299, Value.ref 300, Value.ref 301, Value.ref 302]) #[]
noncomputable def o199 : Params → Obj := fun P => Obj.mk Value.none none (Data.func (FuncData.mk t107 t107 f17a f17b f17c 0 [] Value.none Value.none Value.none Value.none none Value.none Value.none 0)) #[]
noncomputable def o200 : Params → Obj := fun P => Obj.mk (Value.type SL.s5856160107412720595x4) none (Data.fields #[Value.str t107 561, Value.str t107 562, Value.str t1 563, Value.int 148 0, Value.int 2 0, Value.int 0 0, Value.int 0 0, Value.int 3 0, Value.ref 304, Value.bool true, Value.int 181 0, Value.ref 305, Value.none, Value.none, Value.none, Value.ref 306, Value.int 564 0, Value.int 148 0, Value.str t1 565]) #[]
noncomputable def o201 : Params → Obj := fun P => Obj.mk (Value.type SL.s7174869446012820540x8) none (Data.func (FuncData.mk t107 t107 f17a f17b f17c 3 [] Value.none Value.none Value.none (Value.str t104 550) none (Value.ref 307) Value.none 0)) #[]
noncomputable def o202 : Params → Obj := fun P => Obj.mk Value.none none (Data.func (FuncData.mk t108 t108 f18a f18b f18c 0 [] Value.none Value.none Value.none Value.none none Value.none Value.none 0)) #[]
noncomputable def o203 : Params → Obj := fun P => Obj.mk (Value.type SL.s5856160107412720595x4) none (Data.fields #[Value.str t108 567, Value.str t108 568, Value.str t1 569, Value.int 152 0, Value.int 1 0, Value.int 0 0, Value.int 0 0, Value.int 3 0, Value.ref 309, Value.bool true, Value.int 181 0, Value.ref 310, Value.none, Value.none, Value.none, Value.ref 311, Value.int 570 0, Value.int 152 0, Value.str t1 571]) #[]
noncomputable def o204 : Params → Obj := fun P => Obj.mk (Value.type SL.s7174869446012820540x8) none (Data.func (FuncData.mk t108 t108 f18a f18b f18c 3 [] Value.none Value.none Value.none (Value.str t104 550) none (Value.ref 312) Value.none 0)) #[]
noncomputable def tree0 (P : Params) : BT := (.node (PySem.W.boot_o_0 P) (.node (PySem.W.boot_o_1 P) (.node (PySem.W.boot_o_3 P) (.node (PySem.W.boot_o_7 P) .nil .nil) (.node (o0 P) .nil .nil)) (.node (PySem.W.boot_o_5 P) (.node (PySem.W.boot_o_9 P) .nil .nil) (.node (o2 P) .nil .nil))) (.node (PySem.W.boot_o_2 P) (.node (PySem.W.boot_o_4 P) (.node (PySem.W.boot_o_8 P) .nil .nil) (.node (o1 P) .nil .nil)) (.node (PySem.W.boot_o_6 P) (.node (PySem.W.boot_o_10 P) .nil .nil) (.node (o3 P) .nil .nil))))
noncomputable def st0 (w : World) (os : OsState) : SharedT := ⟨tree0 w.params, 15, {}, Array.mk [], boot_drawn, 187, os⟩
noncomputable def tree1 (P : Params) : BT := (.node (PySem.W.boot_o_0 P) (.node (PySem.W.boot_o_1 P) (.node (o5 P) (.node (PySem.W.boot_o_7 P) (.node (o0 P) (.node (o17 P) (.node (o39 P) .nil .nil) .nil) (.node (o27 P) .nil .nil)) (.node (o12 P) (.node (o22 P) (.node (o44 P) .nil .nil) .nil) (.node (o34 P) .nil .nil))) (.node (o0 P) (.node (o8 P) (.node (o1 P) (.node (o0 P) .nil .nil) .nil) (.node (o0 P) .nil .nil)) (.node (o0 P) (.node (o24 P) (.node (o48 P) .nil .nil) .nil) (.node (o36 P) .nil .nil)))) (.node (PySem.W.boot_o_5 P) (.node (PySem.W.boot_o_9 P) (.node (o7 P) (.node (o19 P) (.node (o1 P) .nil .nil) .nil) (.node (o29 P) .nil .nil)) (.node (o14 P) (.node (o0 P) (.node (o46 P) .nil .nil) .nil) (.node (o0 P) .nil .nil))) (.node (o2 P) (.node (o10 P) (.node (o0 P) (.node (o42 P) .nil .nil) .nil) (.node (o32 P) .nil .nil)) (.node (o16 P) (.node (o25 P) .nil .nil) (.node (o37 P) .nil .nil))))) (.node (o4 P) (.node (PySem.W.boot_o_4 P) (.node (PySem.W.boot_o_8 P) (.node (o1 P) (.node (o18 P) (.node (o0 P) .nil .nil) .nil) (.node (o28 P) .nil .nil)) (.node (o13 P) (.node (o23 P) (.node (o45 P) .nil .nil) .nil) (.node (o35 P) .nil .nil))) (.node (o6 P) (.node (o9 P) (.node (o20 P) (.node (o41 P) .nil .nil) .nil) (.node (o31 P) .nil .nil)) (.node (o1 P) (.node (o0 P) (.node (o49 P) .nil .nil) .nil) (.node (o0 P) .nil .nil)))) (.node (PySem.W.boot_o_6 P) (.node (PySem.W.boot_o_10 P) (.node (o0 P) (.node (o0 P) (.node (o40 P) .nil .nil) .nil) (.node (o30 P) .nil .nil)) (.node (o15 P) (.node (o1 P) (.node (o47 P) .nil .nil) .nil) (.node (o1 P) .nil .nil))) (.node (o3 P) (.node (o11 P) (.node (o21 P) (.node (o43 P) .nil .nil) .nil) (.node (o33 P) .nil .nil)) (.node (o0 P) (.node (o26 P) .nil .nil) (.node (o38 P) .nil .nil))))))
noncomputable def st1 (w : World) (os : OsState) : SharedT := ⟨tree1 w.params, 77, {}, Array.mk [], boot_drawn, 275, os⟩
noncomputable def tree2 (P : Params) : BT := (.node (PySem.W.boot_o_0 P) (.node (PySem.W.boot_o_1 P) (.node (o50 P) (.node (PySem.W.boot_o_7 P) (.node (o0 P) (.node (o17 P) (.node (o39 P) .nil .nil) (.node (o64 P) .nil .nil)) (.node (o27 P) (.node (o54 P) .nil .nil) .nil)) (.node (o12 P) (.node (o22 P) (.node (o44 P) .nil .nil) .nil) (.node (o34 P) (.node (o59 P) .nil .nil) .nil))) (.node (o0 P) (.node (o8 P) (.node (o1 P) (.node (o0 P) .nil .nil) .nil) (.node (o0 P) (.node (o56 P) .nil .nil) .nil)) (.node (o0 P) (.node (o24 P) (.node (o48 P) .nil .nil) .nil) (.node (o36 P) (.node (o61 P) .nil .nil) .nil)))) (.node (PySem.W.boot_o_5 P) (.node (PySem.W.boot_o_9 P) (.node (o7 P) (.node (o19 P) (.node (o1 P) .nil .nil) .nil) (.node (o29 P) (.node (o1 P) .nil .nil) .nil)) (.node (o14 P) (.node (o0 P) (.node (o52 P) .nil .nil) .nil) (.node (o0 P) (.node (o0 P) .nil .nil) .nil))) (.node (o2 P) (.node (o10 P) (.node (o0 P) (.node (o42 P) .nil .nil) .nil) (.node (o32 P) (.node (o57 P) .nil .nil) .nil)) (.node (o16 P) (.node (o25 P) (.node (o53 P) .nil .nil) .nil) (.node (o37 P) (.node (o62 P) .nil .nil) .nil))))) (.node (o4 P) (.node (PySem.W.boot_o_4 P) (.node (PySem.W.boot_o_8 P) (.node (o1 P) (.node (o18 P) (.node (o0 P) .nil .nil) .nil) (.node (o28 P) (.node (o0 P) .nil .nil) .nil)) (.node (o13 P) (.node (o23 P) (.node (o45 P) .nil .nil) .nil) (.node (o35 P) (.node (o60 P) .nil .nil) .nil))) (.node (o51 P) (.node (o9 P) (.node (o20 P) (.node (o41 P) .nil .nil) .nil) (.node (o31 P) (.node (o0 P) .nil .nil) .nil)) (.node (o1 P) (.node (o0 P) (.node (o49 P) .nil .nil) .nil) (.node (o0 P) (.node (o0 P) .nil .nil) .nil)))) (.node (PySem.W.boot_o_6 P) (.node (PySem.W.boot_o_10 P) (.node (o0 P) (.node (o0 P) (.node (o40 P) .nil .nil) .nil) (.node (o30 P) (.node (o55 P) .nil .nil) .nil)) (.node (o15 P) (.node (o1 P) (.node (o47 P) .nil .nil) .nil) (.node (o1 P) (.node (o1 P) .nil .nil) .nil))) (.node (o3 P) (.node (o11 P) (.node (o21 P) (.node (o43 P) .nil .nil) .nil) (.node (o33 P) (.node (o58 P) .nil .nil) .nil)) (.node (o0 P) (.node (o26 P) (.node (o29 P) .nil .nil) .nil) (.node (o38 P) (.node (o63 P) .nil .nil) .nil))))))
noncomputable def st2 (w : World) (os : OsState) : SharedT := ⟨tree2 w.params, 96, {}, Array.mk [], boot_drawn, 302, os⟩
noncomputable def tree3 (P : Params) : BT := (.node (PySem.W.boot_o_0 P) (.node (PySem.W.boot_o_1 P) (.node (o65 P) (.node (PySem.W.boot_o_7 P) (.node (o0 P) (.node (o17 P) (.node (o39 P) (.node (o1 P) (.node (o0 P) .nil .nil) .nil) (.node (o0 P) .nil .nil)) (.node (o64 P) (.node (o103 P) .nil .nil) (.node (o0 P) .nil .nil))) (.node (o27 P) (.node (o54 P) (.node (o94 P) .nil .nil) (.node (o1 P) .nil .nil)) (.node (o76 P) (.node (o113 P) .nil .nil) (.node (o150 P) .nil .nil)))) (.node (o12 P) (.node (o22 P) (.node (o44 P) (.node (o89 P) (.node (o165 P) .nil .nil) .nil) (.node (o1 P) .nil .nil)) (.node (o71 P) (.node (o108 P) .nil .nil) (.node (o145 P) .nil .nil))) (.node (o34 P) (.node (o59 P) (.node (o0 P) .nil .nil) (.node (o136 P) .nil .nil)) (.node (o0 P) (.node (o118 P) .nil .nil) (.node (o155 P) .nil .nil))))) (.node (o0 P) (.node (o8 P) (.node (o1 P) (.node (o0 P) (.node (o87 P) (.node (o161 P) .nil .nil) .nil) (.node (o124 P) .nil .nil)) (.node (o0 P) (.node (o1 P) .nil .nil) (.node (o0 P) .nil .nil))) (.node (o0 P) (.node (o56 P) (.node (o97 P) .nil .nil) (.node (o134 P) .nil .nil)) (.node (o0 P) (.node (o0 P) .nil .nil) (.node (o152 P) .nil .nil)))) (.node (o0 P) (.node (o24 P) (.node (o48 P) (.node (o92 P) (.node (o169 P) .nil .nil) .nil) (.node (o129 P) .nil .nil)) (.node (o0 P) (.node (o110 P) .nil .nil) (.node (o1 P) .nil .nil))) (.node (o36 P) (.node (o61 P) (.node (o0 P) .nil .nil) (.node (o139 P) .nil .nil)) (.node (o82 P) (.node (o0 P) .nil .nil) (.node (o0 P) .nil .nil)))))) (.node (PySem.W.boot_o_5 P) (.node (PySem.W.boot_o_9 P) (.node (o7 P) (.node (o19 P) (.node (o1 P) (.node (o0 P) (.node (o160 P) .nil .nil) .nil) (.node (o123 P) .nil .nil)) (.node (o29 P) (.node (o105 P) .nil .nil) (.node (o142 P) .nil .nil))) (.node (o29 P) (.node (o1 P) (.node (o95 P) .nil .nil) (.node (o0 P) .nil .nil)) (.node (o1 P) (.node (o1 P) .nil .nil) (.node (o0 P) .nil .nil)))) (.node (o14 P) (.node (o0 P) (.node (o52 P) (.node (o90 P) (.node (o167 P) .nil .nil) .nil) (.node (o0 P) .nil .nil)) (.node (o1 P) (.node (o0 P) .nil .nil) (.node (o147 P) .nil .nil))) (.node (o0 P) (.node (o0 P) (.node (o100 P) .nil .nil) (.node (o137 P) .nil .nil)) (.node (o81 P) (.node (o1 P) .nil .nil) (.node (o1 P) .nil .nil))))) (.node (o2 P) (.node (o10 P) (.node (o0 P) (.node (o42 P) (.node (o0 P) (.node (o163 P) .nil .nil) .nil) (.node (o126 P) .nil .nil)) (.node (o69 P) (.node (o0 P) .nil .nil) (.node (o144 P) .nil .nil))) (.node (o32 P) (.node (o57 P) (.node (o1 P) .nil .nil) (.node (o0 P) .nil .nil)) (.node (o79 P) (.node (o116 P) .nil .nil) (.node (o153 P) .nil .nil)))) (.node (o16 P) (.node (o25 P) (.node (o53 P) (.node (o0 P) .nil .nil) (.node (o131 P) .nil .nil)) (.node (o74 P) (.node (o111 P) .nil .nil) (.node (o0 P) .nil .nil))) (.node (o37 P) (.node (o62 P) (.node (o102 P) .nil .nil) (.node (o1 P) .nil .nil)) (.node (o84 P) (.node (o121 P) .nil .nil) (.node (o158 P) .nil .nil))))))) (.node (o4 P) (.node (PySem.W.boot_o_4 P) (.node (PySem.W.boot_o_8 P) (.node (o1 P) (.node (o18 P) (.node (o0 P) (.node (o85 P) (.node (o1 P) .nil .nil) .nil) (.node (o1 P) .nil .nil)) (.node (o0 P) (.node (o104 P) .nil .nil) (.node (o141 P) .nil .nil))) (.node (o28 P) (.node (o0 P) (.node (o0 P) .nil .nil) (.node (o132 P) .nil .nil)) (.node (o0 P) (.node (o0 P) .nil .nil) (.node (o151 P) .nil .nil)))) (.node (o13 P) (.node (o23 P) (.node (o45 P) (.node (o0 P) (.node (o166 P) .nil .nil) .nil) (.node (o127 P) .nil .nil)) (.node (o0 P) (.node (o109 P) .nil .nil) (.node (o146 P) .nil .nil))) (.node (o35 P) (.node (o60 P) (.node (o99 P) .nil .nil) (.node (o0 P) .nil .nil)) (.node (o1 P) (.node (o0 P) .nil .nil) (.node (o0 P) .nil .nil))))) (.node (o66 P) (.node (o9 P) (.node (o20 P) (.node (o41 P) (.node (o88 P) (.node (o162 P) .nil .nil) .nil) (.node (o125 P) .nil .nil)) (.node (o68 P) (.node (o106 P) .nil .nil) (.node (o1 P) .nil .nil))) (.node (o31 P) (.node (o0 P) (.node (o0 P) .nil .nil) (.node (o135 P) .nil .nil)) (.node (o78 P) (.node (o115 P) .nil .nil) (.node (o0 P) .nil .nil)))) (.node (o1 P) (.node (o0 P) (.node (o49 P) (.node (o93 P) (.node (o170 P) .nil .nil) .nil) (.node (o130 P) .nil .nil)) (.node (o73 P) (.node (o0 P) .nil .nil) (.node (o148 P) .nil .nil))) (.node (o0 P) (.node (o0 P) (.node (o1 P) .nil .nil) (.node (o0 P) .nil .nil)) (.node (o83 P) (.node (o120 P) .nil .nil) (.node (o157 P) .nil .nil)))))) (.node (PySem.W.boot_o_6 P) (.node (PySem.W.boot_o_10 P) (.node (o0 P) (.node (o0 P) (.node (o40 P) (.node (o86 P) (.node (o0 P) .nil .nil) .nil) (.node (o0 P) .nil .nil)) (.node (o67 P) (.node (o0 P) .nil .nil) (.node (o143 P) .nil .nil))) (.node (o30 P) (.node (o55 P) (.node (o96 P) .nil .nil) (.node (o133 P) .nil .nil)) (.node (o77 P) (.node (o114 P) .nil .nil) (.node (o1 P) .nil .nil)))) (.node (o15 P) (.node (o1 P) (.node (o47 P) (.node (o91 P) (.node (o168 P) .nil .nil) .nil) (.node (o128 P) .nil .nil)) (.node (o72 P) (.node (o1 P) .nil .nil) (.node (o0 P) .nil .nil))) (.node (o1 P) (.node (o1 P) (.node (o101 P) .nil .nil) (.node (o138 P) .nil .nil)) (.node (o0 P) (.node (o119 P) .nil .nil) (.node (o156 P) .nil .nil))))) (.node (o3 P) (.node (o11 P) (.node (o21 P) (.node (o43 P) (.node (o1 P) (.node (o164 P) .nil .nil) .nil) (.node (o0 P) .nil .nil)) (.node (o70 P) (.node (o107 P) .nil .nil) (.node (o0 P) .nil .nil))) (.node (o33 P) (.node (o58 P) (.node (o98 P) .nil .nil) (.node (o1 P) .nil .nil)) (.node (o80 P) (.node (o117 P) .nil .nil) (.node (o154 P) .nil .nil)))) (.node (o0 P) (.node (o26 P) (.node (o29 P) (.node (o1 P) .nil .nil) (.node (o0 P) .nil .nil)) (.node (o75 P) (.node (o112 P) .nil .nil) (.node (o149 P) .nil .nil))) (.node (o38 P) (.node (o63 P) (.node (o0 P) .nil .nil) (.node (o140 P) .nil .nil)) (.node (o0 P) (.node (o122 P) .nil .nil) (.node (o159 P) .nil .nil))))))))
noncomputable def st3 (w : World) (os : OsState) : SharedT := ⟨tree3 w.params, 269, {}, Array.mk [], boot_drawn, 504, os⟩
noncomputable def tree4 (P : Params) : BT := (.node (PySem.W.boot_o_0 P) (.node (PySem.W.boot_o_1 P) (.node (o171 P) (.node (PySem.W.boot_o_7 P) (.node (o0 P) (.node (o17 P) (.node (o39 P) (.node (o1 P) (.node (o0 P) .nil .nil) .nil) (.node (o0 P) .nil .nil)) (.node (o64 P) (.node (o103 P) (.node (o183 P) .nil .nil) .nil) (.node (o0 P) .nil .nil))) (.node (o27 P) (.node (o54 P) (.node (o94 P) (.node (o173 P) .nil .nil) .nil) (.node (o1 P) .nil .nil)) (.node (o76 P) (.node (o113 P) (.node (o198 P) .nil .nil) .nil) (.node (o150 P) .nil .nil)))) (.node (o12 P) (.node (o22 P) (.node (o44 P) (.node (o89 P) (.node (o165 P) .nil .nil) .nil) (.node (o1 P) .nil .nil)) (.node (o71 P) (.node (o108 P) (.node (o190 P) .nil .nil) .nil) (.node (o145 P) .nil .nil))) (.node (o34 P) (.node (o59 P) (.node (o0 P) (.node (o1 P) .nil .nil) .nil) (.node (o136 P) .nil .nil)) (.node (o0 P) (.node (o118 P) (.node (o202 P) .nil .nil) .nil) (.node (o155 P) .nil .nil))))) (.node (o0 P) (.node (o8 P) (.node (o1 P) (.node (o0 P) (.node (o87 P) (.node (o161 P) .nil .nil) .nil) (.node (o124 P) .nil .nil)) (.node (o0 P) (.node (o1 P) (.node (o186 P) .nil .nil) .nil) (.node (o0 P) .nil .nil))) (.node (o0 P) (.node (o56 P) (.node (o97 P) (.node (o176 P) .nil .nil) .nil) (.node (o134 P) .nil .nil)) (.node (o0 P) (.node (o0 P) (.node (o200 P) .nil .nil) .nil) (.node (o152 P) .nil .nil)))) (.node (o0 P) (.node (o24 P) (.node (o48 P) (.node (o92 P) (.node (o169 P) .nil .nil) .nil) (.node (o129 P) .nil .nil)) (.node (o0 P) (.node (o110 P) (.node (o194 P) .nil .nil) .nil) (.node (o1 P) .nil .nil))) (.node (o36 P) (.node (o61 P) (.node (o0 P) (.node (o181 P) .nil .nil) .nil) (.node (o139 P) .nil .nil)) (.node (o82 P) (.node (o0 P) .nil .nil) (.node (o0 P) .nil .nil)))))) (.node (PySem.W.boot_o_5 P) (.node (PySem.W.boot_o_9 P) (.node (o7 P) (.node (o19 P) (.node (o1 P) (.node (o0 P) (.node (o160 P) .nil .nil) .nil) (.node (o123 P) .nil .nil)) (.node (o29 P) (.node (o105 P) (.node (o184 P) .nil .nil) .nil) (.node (o142 P) .nil .nil))) (.node (o29 P) (.node (o1 P) (.node (o95 P) (.node (o174 P) .nil .nil) .nil) (.node (o0 P) .nil .nil)) (.node (o1 P) (.node (o1 P) (.node (o1 P) .nil .nil) .nil) (.node (o0 P) .nil .nil)))) (.node (o14 P) (.node (o0 P) (.node (o52 P) (.node (o90 P) (.node (o167 P) .nil .nil) .nil) (.node (o0 P) .nil .nil)) (.node (o1 P) (.node (o0 P) (.node (o192 P) .nil .nil) .nil) (.node (o147 P) .nil .nil))) (.node (o0 P) (.node (o0 P) (.node (o100 P) (.node (o0 P) .nil .nil) .nil) (.node (o137 P) .nil .nil)) (.node (o81 P) (.node (o1 P) (.node (o204 P) .nil .nil) .nil) (.node (o1 P) .nil .nil))))) (.node (o2 P) (.node (o10 P) (.node (o0 P) (.node (o42 P) (.node (o0 P) (.node (o163 P) .nil .nil) .nil) (.node (o126 P) .nil .nil)) (.node (o69 P) (.node (o0 P) (.node (o188 P) .nil .nil) .nil) (.node (o144 P) .nil .nil))) (.node (o32 P) (.node (o57 P) (.node (o1 P) (.node (o178 P) .nil .nil) .nil) (.node (o0 P) .nil .nil)) (.node (o79 P) (.node (o116 P) (.node (o0 P) .nil .nil) .nil) (.node (o153 P) .nil .nil)))) (.node (o16 P) (.node (o25 P) (.node (o53 P) (.node (o0 P) (.node (o0 P) .nil .nil) .nil) (.node (o131 P) .nil .nil)) (.node (o74 P) (.node (o111 P) (.node (o196 P) .nil .nil) .nil) (.node (o0 P) .nil .nil))) (.node (o37 P) (.node (o62 P) (.node (o102 P) (.node (o0 P) .nil .nil) .nil) (.node (o1 P) .nil .nil)) (.node (o84 P) (.node (o121 P) .nil .nil) (.node (o158 P) .nil .nil))))))) (.node (o4 P) (.node (PySem.W.boot_o_4 P) (.node (PySem.W.boot_o_8 P) (.node (o1 P) (.node (o18 P) (.node (o0 P) (.node (o85 P) (.node (o1 P) .nil .nil) .nil) (.node (o1 P) .nil .nil)) (.node (o0 P) (.node (o104 P) (.node (o0 P) .nil .nil) .nil) (.node (o141 P) .nil .nil))) (.node (o28 P) (.node (o0 P) (.node (o0 P) (.node (o0 P) .nil .nil) .nil) (.node (o132 P) .nil .nil)) (.node (o0 P) (.node (o0 P) (.node (o0 P) .nil .nil) .nil) (.node (o151 P) .nil .nil)))) (.node (o13 P) (.node (o23 P) (.node (o45 P) (.node (o0 P) (.node (o166 P) .nil .nil) .nil) (.node (o127 P) .nil .nil)) (.node (o0 P) (.node (o109 P) (.node (o191 P) .nil .nil) .nil) (.node (o146 P) .nil .nil))) (.node (o35 P) (.node (o60 P) (.node (o99 P) (.node (o179 P) .nil .nil) .nil) (.node (o0 P) .nil .nil)) (.node (o1 P) (.node (o0 P) (.node (o203 P) .nil .nil) .nil) (.node (o0 P) .nil .nil))))) (.node (o172 P) (.node (o9 P) (.node (o20 P) (.node (o41 P) (.node (o88 P) (.node (o162 P) .nil .nil) .nil) (.node (o125 P) .nil .nil)) (.node (o68 P) (.node (o106 P) (.node (o187 P) .nil .nil) .nil) (.node (o1 P) .nil .nil))) (.node (o31 P) (.node (o0 P) (.node (o0 P) (.node (o177 P) .nil .nil) .nil) (.node (o135 P) .nil .nil)) (.node (o78 P) (.node (o115 P) (.node (o201 P) .nil .nil) .nil) (.node (o0 P) .nil .nil)))) (.node (o1 P) (.node (o0 P) (.node (o49 P) (.node (o93 P) (.node (o170 P) .nil .nil) .nil) (.node (o130 P) .nil .nil)) (.node (o73 P) (.node (o0 P) (.node (o195 P) .nil .nil) .nil) (.node (o148 P) .nil .nil))) (.node (o0 P) (.node (o0 P) (.node (o1 P) (.node (o182 P) .nil .nil) .nil) (.node (o0 P) .nil .nil)) (.node (o83 P) (.node (o120 P) .nil .nil) (.node (o157 P) .nil .nil)))))) (.node (PySem.W.boot_o_6 P) (.node (PySem.W.boot_o_10 P) (.node (o0 P) (.node (o0 P) (.node (o40 P) (.node (o86 P) (.node (o0 P) .nil .nil) .nil) (.node (o0 P) .nil .nil)) (.node (o67 P) (.node (o0 P) (.node (o185 P) .nil .nil) .nil) (.node (o143 P) .nil .nil))) (.node (o30 P) (.node (o55 P) (.node (o96 P) (.node (o175 P) .nil .nil) .nil) (.node (o133 P) .nil .nil)) (.node (o77 P) (.node (o114 P) (.node (o199 P) .nil .nil) .nil) (.node (o1 P) .nil .nil)))) (.node (o15 P) (.node (o1 P) (.node (o47 P) (.node (o91 P) (.node (o168 P) .nil .nil) .nil) (.node (o128 P) .nil .nil)) (.node (o72 P) (.node (o1 P) (.node (o193 P) .nil .nil) .nil) (.node (o0 P) .nil .nil))) (.node (o1 P) (.node (o1 P) (.node (o101 P) (.node (o180 P) .nil .nil) .nil) (.node (o138 P) .nil .nil)) (.node (o0 P) (.node (o119 P) .nil .nil) (.node (o156 P) .nil .nil))))) (.node (o3 P) (.node (o11 P) (.node (o21 P) (.node (o43 P) (.node (o1 P) (.node (o164 P) .nil .nil) .nil) (.node (o0 P) .nil .nil)) (.node (o70 P) (.node (o107 P) (.node (o189 P) .nil .nil) .nil) (.node (o0 P) .nil .nil))) (.node (o33 P) (.node (o58 P) (.node (o98 P) (.node (o0 P) .nil .nil) .nil) (.node (o1 P) .nil .nil)) (.node (o80 P) (.node (o117 P) (.node (o1 P) .nil .nil) .nil) (.node (o154 P) .nil .nil)))) (.node (o0 P) (.node (o26 P) (.node (o29 P) (.node (o1 P) (.node (o29 P) .nil .nil) .nil) (.node (o0 P) .nil .nil)) (.node (o75 P) (.node (o112 P) (.node (o197 P) .nil .nil) .nil) (.node (o149 P) .nil .nil))) (.node (o38 P) (.node (o63 P) (.node (o0 P) (.node (o1 P) .nil .nil) .nil) (.node (o140 P) .nil .nil)) (.node (o0 P) (.node (o122 P) .nil .nil) (.node (o159 P) .nil .nil))))))))
noncomputable def st4 (w : World) (os : OsState) : SharedT := ⟨tree4 w.params, 314, {}, Array.mk [], boot_drawn, 573, os⟩
noncomputable def list4 (P : Params) : List Obj := [PySem.W.boot_o_0 P, PySem.W.boot_o_1 P, o4 P, o171 P, PySem.W.boot_o_4 P, PySem.W.boot_o_5 P, PySem.W.boot_o_6 P, PySem.W.boot_o_7 P, PySem.W.boot_o_8 P, PySem.W.boot_o_9 P, PySem.W.boot_o_10 P, o0 P, o172 P, o2 P, o3 P, o0 P, o1 P, o7 P, o0 P, o8 P, o9 P, o10 P, o11 P, o12 P, o13 P, o14 P, o15 P, o0 P, o1 P, o16 P, o0 P, o17 P, o18 P, o19 P, o0 P, o1 P, o20 P, o0 P, o21 P, o22 P, o23 P, o0 P, o1 P, o24 P, o0 P, o25 P, o26 P, o27 P, o28 P, o29 P, o30 P, o0 P, o31 P, o32 P, o33 P, o34 P, o35 P, o0 P, o1 P, o36 P, o0 P, o37 P, o38 P, o39 P, o0 P, o1 P, o40 P, o0 P, o41 P, o42 P, o43 P, o44 P, o45 P, o52 P, o47 P, o48 P, o49 P, o53 P, o29 P, o54 P, o0 P, o1 P, o55 P, o56 P, o0 P, o57 P, o58 P, o59 P, o60 P, o0 P, o1 P, o61 P, o0 P, o62 P, o63 P, o64 P, o0 P, o29 P, o67 P, o0 P, o68 P, o69 P, o70 P, o71 P, o0 P, o1 P, o72 P, o0 P, o73 P, o74 P, o75 P, o76 P, o0 P, o1 P, o77 P, o0 P, o78 P, o79 P, o80 P, o0 P, o1 P, o81 P, o0 P, o82 P, o83 P, o84 P, o0 P, o1 P, o85 P, o0 P, o86 P, o87 P, o88 P, o0 P, o1 P, o89 P, o0 P, o90 P, o91 P, o92 P, o93 P, o0 P, o1 P, o94 P, o0 P, o95 P, o96 P, o97 P, o0 P, o1 P, o98 P, o0 P, o99 P, o100 P, o101 P, o0 P, o1 P, o102 P, o0 P, o103 P, o104 P, o105 P, o0 P, o1 P, o106 P, o0 P, o107 P, o108 P, o109 P, o0 P, o1 P, o110 P, o0 P, o111 P, o112 P, o113 P, o0 P, o1 P, o114 P, o0 P, o115 P, o116 P, o117 P, o118 P, o0 P, o1 P, o119 P, o0 P, o120 P, o121 P, o122 P, o0 P, o1 P, o123 P, o0 P, o124 P, o125 P, o126 P, o0 P, o1 P, o127 P, o0 P, o128 P, o129 P, o130 P, o131 P, o0 P, o1 P, o132 P, o0 P, o133 P, o134 P, o135 P, o0 P, o1 P, o136 P, o0 P, o137 P, o138 P, o139 P, o0 P, o1 P, o140 P, o0 P, o141 P, o142 P, o143 P, o0 P, o1 P, o144 P, o0 P, o145 P, o146 P, o147 P, o0 P, o1 P, o148 P, o0 P, o149 P, o150 P, o151 P, o0 P, o1 P, o152 P, o0 P, o153 P, o154 P, o155 P, o0 P, o1 P, o156 P, o0 P, o157 P, o158 P, o159 P, o0 P, o1 P, o160 P, o0 P, o161 P, o162 P, o163 P, o164 P, o165 P, o166 P, o167 P, o168 P, o169 P, o170 P, o0 P, o29 P, o173 P, o0 P, o174 P, o175 P, o176 P, o177 P, o178 P, o0 P, o1 P, o179 P, o0 P, o180 P, o181 P, o182 P, o0 P, o1 P, o183 P, o0 P, o184 P, o185 P, o186 P, o187 P, o188 P, o189 P, o190 P, o191 P, o192 P, o193 P, o194 P, o195 P, o196 P, o197 P, o198 P, o0 P, o1 P, o199 P, o200 P, o201 P, o0 P, o1 P, o202 P, o203 P, o204 P]
end Mine.T
namespace Mine
open Mine.T
noncomputable def walk0 (go : Nat → Shared → Thread → Option (Shared × Thread)) (rn : Nat → Shared → Thread → Option (Flow × Shared × Code × Pos)) (stub blk : Thread) (s : Shared) : Option (Thread × Option (Flow × (Code × Pos) × Option SharedT)) :=
  (go 12 s stub).map fun x => (x.2, (rn 1 x.1 blk).map fun y => (y.1, y.2.2, treeOfH y.2.1))
theorem walk0_spec {go : Nat → Shared → Thread → Option (Shared × Thread)} {rn : Nat → Shared → Thread → Option (Flow × Shared × Code × Pos)}
    {stub blk : Thread} {s : Shared} {th : Thread} {f1 : Flow} {c1 : Code × Pos} {t : SharedT} (h : walk0 go rn stub blk s = some (th, some (f1, c1, some t))) :
    ∃ sa, go 12 s stub = some (sa, th) ∧ rn 1 sa blk = some (f1, t.abs, c1) := by
  unfold walk0 at h
  obtain ⟨⟨sa, th'⟩, g1, k1⟩ := Option.map_eq_some_iff.mp h
  obtain ⟨e1, k2⟩ := Prod.mk.inj k1
  replace e1 : th' = th := e1
  obtain ⟨⟨f1', sb, c1'⟩, g2, k3⟩ := Option.map_eq_some_iff.mp k2
  obtain ⟨e2, k4⟩ := Prod.mk.inj k3
  replace e2 : f1' = f1 := e2
  obtain ⟨e3, k5⟩ := Prod.mk.inj k4
  replace e3 : c1' = c1 := e3
  rw [e1] at g1
  rw [e2, e3] at g2
  exact ⟨sa, g1, by rw [treeOf_abs k5]; exact g2⟩
/-- the opening steps, up to the first statement -/
def PreH (go : (String → Option Builtin) → Program → World → Nat → Option Value → Nat → Shared → Thread → Option (Shared × Thread))
    (rn : (String → Option Builtin) → Program → World → Nat → Option Value → Nat → Nat → Shared → Thread → Option (Flow × Shared × Code × Pos))
    (tb : String → Option Builtin) (den : (String → Option Builtin) → Code → Sem Fin) (p : Program) : Prop :=
  ∀ w : World, (fun os => walk0 (go tb p w 11 annH) (rn tb p w 11 annH 1) (topStub p) (blockOf (behindTheImports p) (envOfH p) (codeOfH p) at0H [topFrame at0H]) ⟨boot_heap w.params, Array.mk [], boot_drawn, boot_toks, os⟩) =
    fun os => some (⟨den tb (codeOfH p), codeOfH p, at0H, [topFrame at0H]⟩, some (.next, (codeOfH p, at0H), some (st0 w os)))
noncomputable def stsH (p : Program) (a b : Nat) : List Stmt := ((behindTheImports p).drop a).take b
/-- some statements of the top, from a state to a state -/
def SegH (rnT : (String → Option Builtin) → Program → World → Nat → Option Value → Nat → Nat → SharedT → Thread → Option (Flow × SharedT × Code × Pos))
    (tb : String → Option Builtin) (p : Program) (a b : Nat) (q q' : Pos) (S S' : World → OsState → SharedT) : Prop :=
  ∀ w : World, (fun os => rnT tb p w 11 annH 1 1000 (S w os) (piecesOf (stsH p a b) (envOfH p) (codeOfH p) q [topFrame at0H])) = fun os => some (.next, S' w os, codeOfH p, q')
theorem seg_turn {a b : Nat} {q q' : Pos} {S S' : World → OsState → SharedT} (h : SegH PySem.W.Fast.tw10110043849684766642 PySem.W.Fast.tw14364793385576792824 PySem.W.Fast.tw15470812959826284320 a b q q' S S') : SegH segRunT treeTable pwH a b q q' S S' := by
  rw [← PySem.W.Fast.te10110043849684766642, ← PySem.W.Fast.te14364793385576792824, ← PySem.W.Fast.te15470812959826284320] at h
  exact h
noncomputable def endH (w : World) (os : OsState) : Shared := ⟨⟨⟨list4 w.params⟩, {}⟩, Array.mk [], boot_drawn, 573, os⟩
def LookA (im : List Stmt → List Str) (p : Program) : Prop :=
  ∀ w : World, (fun os => (staticsOk (im p.main.body) (boot_heap w.params) (endH w os).heap && namesBound p (endH w os).heap && gensDone (endH w os) && laidKept (boot_heap w.params) (endH w os).heap)) = fun _ => true
def LookB {σ : Type} (seen : Program → List Str → List Str → (Shared → Bool) → Bool → Shared → σ) (good : Program → List Str → σ) (im : List Stmt → List Str) (p : Program) : Prop :=
  ∀ w : World, (fun os => seen (viewOfH p) looseH (im p.main.body) (fun s => xlAt (viewOfH p) [] s && recOk (RowW.records rowH) s) true (endH w os)) = fun _ => good (viewOfH p) looseH
def LookC (p : Program) : Prop := ∀ w : World, (fun os => (hkH (wordsOfH p)).obs (endH w os)) = fun _ => (hkH (wordsOfH p)).val w
theorem pre0 : PreH PySem.W.Fast.tw15667345088766844465 PySem.W.Fast.tw14374325043358763698 PySem.W.Fast.tw14364793385576792824 PySem.W.Fast.tw11892475500146522536 PySem.W.Fast.tw15470812959826284320 := by
  intro w
  kernel_rfl
theorem seg1 : SegH PySem.W.Fast.tw10110043849684766642 PySem.W.Fast.tw14364793385576792824 PySem.W.Fast.tw15470812959826284320 0 8 at0H ⟨26, 0, 34, 35⟩ st0 st1 := by
  intro w
  kernel_rfl
theorem seg2 : SegH PySem.W.Fast.tw10110043849684766642 PySem.W.Fast.tw14364793385576792824 PySem.W.Fast.tw15470812959826284320 8 4 ⟨26, 0, 34, 35⟩ ⟨39, 0, 40, 39⟩ st1 st2 := by
  intro w
  kernel_rfl
theorem seg3 : SegH PySem.W.Fast.tw10110043849684766642 PySem.W.Fast.tw14364793385576792824 PySem.W.Fast.tw15470812959826284320 12 1 ⟨39, 0, 40, 39⟩ ⟨41, 0, 134, 16⟩ st2 st3 := by
  intro w
  kernel_rfl
theorem seg4 : SegH PySem.W.Fast.tw10110043849684766642 PySem.W.Fast.tw14364793385576792824 PySem.W.Fast.tw15470812959826284320 13 6 ⟨41, 0, 134, 16⟩ ⟨152, 0, 173, 132⟩ st3 st4 := by
  intro w
  kernel_rfl
theorem end0 (w : World) (os : OsState) : (st4 w os).abs = endH w os := by kernel_rfl
theorem lookA0 : LookA PySem.W.Fast.tw5923862056798008813 PySem.W.Fast.tw15470812959826284320 := by
  intro w
  kernel_rfl
theorem lookB0 : LookB PySem.W.Fast.tw4187177175401517315 openGood PySem.W.Fast.tw5923862056798008813 PySem.W.Fast.tw15470812959826284320 := by
  intro w
  kernel_rfl
theorem lookC0 : LookC PySem.W.Fast.tw15470812959826284320 := by
  intro w
  kernel_rfl
theorem pre1 : PreH topGo segRun treeTable denote pwH := by
  have h := pre0
  rw [← PySem.W.Fast.te15667345088766844465, ← PySem.W.Fast.te14374325043358763698, ← PySem.W.Fast.te14364793385576792824, ← PySem.W.Fast.te11892475500146522536, ← PySem.W.Fast.te15470812959826284320] at h
  exact h
theorem lookA1 : LookA importedModules pwH := by
  have h := lookA0
  rw [← PySem.W.Fast.te5923862056798008813, ← PySem.W.Fast.te15470812959826284320] at h
  exact h
theorem lookB1 : LookB openSeen openGood importedModules pwH := by
  have h := lookB0
  rw [← PySem.W.Fast.te4187177175401517315, ← PySem.W.Fast.te5923862056798008813, ← PySem.W.Fast.te15470812959826284320] at h
  exact h
theorem lookC1 : LookC pwH := by
  have h := lookC0
  rw [← PySem.W.Fast.te15470812959826284320] at h
  exact h
theorem opens0H : opening pwH = plainProg pwH.main.scope.names := by kernel_rfl
theorem fence0H (s : Shared) : fenceModules? pwH s = some s := by kernel_rfl
theorem size0H (w : World) : ((boot_heap w.params).isNs mainGlobals && (Array.mk [] : Array GenState).size == 0, (boot_heap w.params).objs.size, PySem.W.Fast.tw8920871248978507458 (boot_heap w.params) mainGlobals ⟨⟨[95, 95, 97, 110, 110, 111, 116, 97, 116, 105, 111, 110, 115, 95, 95]⟩⟩) = (true, 11, annH) := by kernel_rfl
theorem size1H (w : World) : ((boot_heap w.params).isNs mainGlobals && (Array.mk [] : Array GenState).size == 0, (boot_heap w.params).objs.size, (boot_heap w.params).nsMap mainGlobals "__annotations__") = (true, 11, annH) := by
  rw [PySem.W.Fast.te8920871248978507458]
  exact size0H w
theorem fin0H {tb : String → Option Builtin} {p : Program} {w : World} {n : Nat} {a : Option Value} {c : Code} {q q' : Pos} (s : Shared) : topRun tb p w n a 2 s ⟨doneF .next, c, q, [topFrame q']⟩ = some s := by
  obtain ⟨heap, gens, drawn, toks, os⟩ := s
  rfl
theorem all0 : behindTheImports pwH = stsH pwH 0 8 ++ (stsH pwH 8 4 ++ (stsH pwH 12 1 ++ (stsH pwH 13 6 ++ []))) := by kernel_rfl
theorem run0H (w : World) (os : OsState) : topRun treeTable pwH w 11 annH 4015 ⟨boot_heap w.params, Array.mk [], boot_drawn, boot_toks, os⟩ (topStub pwH) = some (endH w os) := by
  obtain ⟨sa, g1, g2⟩ := walk0_spec (congrFun (pre1 w) os)
  refine go_top (n := 12) (N := 4003) g1 ?_
  refine piece_block (n := 1) (N := 4002) g2 ?_
  have k := piece_app (tb := treeTable) (p := pwH) (w := w) (n₀ := 11) (ann := annH) (env := envOfH pwH) (q := at0H) (n := 1000) (N := 2) (rest := []) (segRun_of (congrFun (seg_turn seg4 w) os)) (piece_nil (fin0H (st4 w os).abs))
  have k := piece_app (n := 1000) (N := 1002) (segRun_of (congrFun (seg_turn seg3 w) os)) k
  have k := piece_app (n := 1000) (N := 2002) (segRun_of (congrFun (seg_turn seg2 w) os)) k
  have k := piece_app (n := 1000) (N := 3002) (segRun_of (congrFun (seg_turn seg1 w) os)) k
  rw [← all0, end0] at k
  exact k
theorem leftH : LeftO pwH (viewOfH pwH) looseH (fun s => xlAt (viewOfH pwH) [] s && recOk (RowW.records rowH) s) (hkH (wordsOfH pwH)).obs (hkH (wordsOfH pwH)).val 4040 := fun w => by
  obtain ⟨⟨h, gs, d, k, os⟩, e, e'⟩ := Option.map_eq_some_iff.mp (boot_open (N := 4040) opens0H (by decide) fence0H w)
  obtain ⟨rfl, rfl, rfl, rfl⟩ : h = boot_heap w.params ∧ gs = Array.mk [] ∧ d = boot_drawn ∧ k = boot_toks := by simpa using e'
  obtain ⟨z1, z23⟩ := Prod.mk.inj (size1H w)
  obtain ⟨z2, z3⟩ := Prod.mk.inj z23
  have m := topRun_mono 25 _ _ _ _ (run0H w os)
  have l1 := congrFun (lookA1 w) os
  have top : topFrom treeTable pwH w 4040 ⟨boot_heap w.params, Array.mk [], boot_drawn, boot_toks, os⟩ = some (endH w os) := by
    unfold topFrom
    dsimp only
    rw [z1, z2, z3]
    dsimp only
    rw [m, Option.bind_some, l1]
  unfold openEnds
  rw [e, Option.bind_some, top, Option.map_some]
  exact congrArg some (Prod.ext (congrFun (lookB1 w) os) (congrFun (lookC1 w) os))
theorem view_eqH : view = viewOfH pwH := rfl
theorem reserved_eqH : reserved = wordsOfH pwH := rfl
theorem leftV : LeftO pwH view looseH (fun s => xlAt view [] s && recOk (RowW.records rowH) s) (hkH reserved).obs (hkH reserved).val 4040 := by
  rw [view_eqH, reserved_eqH]
  exact leftH
end Mine
theorem Mine.kNoneHd : True := by
  k_with_none
  w_top off
  exact trivial
end Hd
section P1
open PySem PySem.W PySem.Calls PyProof.Rows
set_option maxRecDepth 100000
namespace Mine
/-- the text is a part of the list -/
noncomputable def inL (ys : List Nat) : List Nat → Bool
  | [] => ys.isEmpty
  | x :: xs => ys.isPrefixOf (x :: xs) || inL ys xs
theorem inL_iff (ys : List Nat) : ∀ xs : List Nat, inL ys xs = true ↔ ∃ i, i + ys.length ≤ xs.length ∧ ((xs.drop i).take ys.length == ys) = true
  | [] => by
    unfold inL
    constructor
    · intro h
      obtain rfl : ys = [] := by simpa using h
      exact ⟨0, by simp, by simp⟩
    · rintro ⟨i, h, _⟩
      cases ys with
      | nil => rfl
      | cons a b => simp at h
  | x :: xs => by
    unfold inL
    rw [Bool.or_eq_true, inL_iff ys xs, List.isPrefixOf_iff_prefix]
    constructor
    · rintro (⟨t, e⟩ | ⟨i, h, e⟩)
      · refine ⟨0, ?_, ?_⟩
        · rw [← e]; simp
        · rw [← e]; simp
      · exact ⟨i + 1, by simp only [List.length_cons]; omega, by simpa using e⟩
    · rintro ⟨i, h, e⟩
      cases i with
      | zero =>
        left
        rw [List.drop_zero, beq_iff_eq] at e
        exact e ▸ List.take_prefix _ _
      | succ i =>
        right
        exact ⟨i, by simp only [List.length_cons] at h; omega, by simpa using e⟩
/-- what is_reserved says of a word -/
noncomputable def resv (wo : Str) : Bool := !(Builtin.Str.occurrences reserved (Str.ofString " " ++ wo ++ Str.ofString " ") 0 reserved.length 1).isEmpty
theorem resv_of {wo : Str} {l : List Nat} {r : List Nat} (hr : reserved = ⟨r.toArray⟩) (hw : Str.ofString " " ++ wo ++ Str.ofString " " = ⟨l.toArray⟩) : resv wo = inL l r := by
  unfold resv
  rw [Bool.eq_iff_iff, StrLaws.found_iff, inL_iff, hr, hw]
  constructor
  · rintro ⟨i, h, e⟩
    rw [StrLaws.subAt_eq] at e
    exact ⟨i, by simpa [Str.length] using h, by simpa [Str.length] using e⟩
  · rintro ⟨i, h, e⟩
    refine ⟨i, by simpa [Str.length] using h, ?_⟩
    rw [StrLaws.subAt_eq]
    simpa [Str.length] using e
noncomputable def tests (r : List Nat) : Bool :=
  inL [32, 73, 78, 80, 85, 84, 32] r && inL [32, 79, 85, 84, 80, 85, 84, 32] r && inL [32, 73, 45, 79, 32] r && inL [32, 69, 88, 84, 69, 78, 68, 32] r &&
  !inL [32, 65, 76, 80, 72, 65, 32] r && !inL [32, 66, 69, 84, 65, 45, 49, 32] r && !inL [32, 71, 55, 32] r
theorem res_cs : ∃ s : String, reserved = Str.ofString s ∧ ∃ cs : List Char, Str.ofString s = ⟨(cs.map Char.toNat).toArray⟩ ∧ tests (cs.map Char.toNat) = true :=
  ⟨_, by with_unfolding_all exact rfl, _, PySem.W.Fast.ofString_ofList _, by decide +kernel⟩
theorem resv_words : (resv (Str.ofString "INPUT") = true ∧ resv (Str.ofString "OUTPUT") = true ∧ resv (Str.ofString "I-O") = true ∧ resv (Str.ofString "EXTEND") = true) ∧
    resv (Str.ofString "ALPHA") = false ∧ resv (Str.ofString "BETA-1") = false ∧ resv (Str.ofString "G7") = false := by
  obtain ⟨s, e1, cs, e2, t⟩ := res_cs
  have hr := e1.trans e2
  unfold tests at t
  simp only [Bool.and_eq_true, Bool.not_eq_true'] at t
  obtain ⟨⟨⟨⟨⟨⟨t1, t2⟩, t3⟩, t4⟩, t5⟩, t6⟩, t7⟩ := t
  exact ⟨⟨(resv_of hr (by decide +kernel)).trans t1, (resv_of hr (by decide +kernel)).trans t2, (resv_of hr (by decide +kernel)).trans t3, (resv_of hr (by decide +kernel)).trans t4⟩,
    (resv_of hr (by decide +kernel)).trans t5, (resv_of hr (by decide +kernel)).trans t6, (resv_of hr (by decide +kernel)).trans t7⟩
end Mine
theorem Mine.kNoneP1 : True := by
  k_with_none
  w_top off
  exact trivial
end P1
section C0
open PySem PySem.W PySem.Calls PyProof.Rows
set_option maxRecDepth 100000
set_option maxHeartbeats 8000000
namespace Mine
noncomputable abbrev LO : List Str := looseW Mine.view [Str.ofString "LedgerError", Str.ofString "Token"] ++ (recsOf Mine.view).map (fun x => x.name) ++ (litsOf Mine.view).map (fun x => x.1) ++ (clssOf Mine.view (looseW Mine.view [Str.ofString "LedgerError", Str.ofString "Token"])).map (fun x => x.name)
abbrev Led := List (Addr × Obj)
theorem bneT {a b : Str} (h : (a != b) = true) : (a == b) = false := by simpa [bne] using h
theorem bneF {a b : Str} (h : (a != b) = false) : (a == b) = true := by simpa [bne] using h
theorem and_tf {a b : Bool} (h : a = true) (h' : b = false) : (a && b) = false := by rw [h, h']; rfl
theorem and_f {a b : Bool} (h : a = false) : (a && b) = false := by rw [h]; rfl
theorem and_l {a b : Bool} (h : a = true) : b = (a && b) := by rw [h]; rfl
theorem and_r {a b : Bool} (h : a = false) : a = (a && b) := by rw [h]; rfl
theorem and_tt {a b : Bool} (h : a = true) (h' : b = true) : (a && b) = true := by rw [h, h']; rfl
/-- where the walk stands still -/
noncomputable def Hold (P : Prop) : Prop := P
theorem Hold.out {P : Prop} (h : Hold P) : P := h
/-- no address of the one is an address of the other -/
noncomputable def Apart (ex news : Led) : Prop := ∀ p ∈ ex, ∀ q ∈ news, p.1 ≠ q.1
theorem Apart.nil {news : Led} : Apart [] news := fun _ h => nomatch h
theorem Apart.cons {a : Addr} {o : Obj} {ex news : Led} (h : ∀ q ∈ news, a ≠ q.1) (t : Apart ex news) : Apart ((a, o) :: ex) news := fun p hp => by
  rcases List.mem_cons.mp hp with rfl | hp
  · exact h
  · exact t p hp
inductive Split : Led → Led → Led → Prop
  | nil {news : Led} : Split news [] news
  | cons {p : Addr × Obj} {all ex news : Led} : Split all ex news → Split (p :: all) (p :: ex) news
theorem Split.eq {all ex news : Led} (h : Split all ex news) : all = ex ++ news := by
  induction h with
  | nil => rfl
  | cons _ ih => rw [ih]; rfl
theorem Split.whole : ∀ {all : Led}, Split all all []
  | [] => .nil
  | _ :: _ => .cons Split.whole
theorem Split.app : ∀ {tups news : Led}, Split (tups ++ news) tups news
  | [], _ => .nil
  | _ :: _, _ => .cons Split.app
theorem Apart.none {ex : Led} : Apart ex [] := fun _ _ _ h => nomatch h
/-- what a call of f upon args does to a ledger; what stands beside it is kept -/
noncomputable def Does (w : World) (mean : ExcName → Option Value) (mg mb : Str → Option Value) (c : Nat) (f : Addr) (args : List Value) (news : Led) (Ret : Value → Led → Prop) : Prop :=
  ∀ (dp un : Nat) (gd : Option (List Code)) (cn : Str) (cs : Scope) (a : Addr) (ccd : Value) (cl : List (Str × Addr)) (outer : List Env) (A₀ : Around) (base h₀ : Heap) (L : Addr) (m : Str → Option Value) (s : Shared)
    (Q E : Value → Shared → Prop) (ex : Led),
    Below A₀ base outer h₀ → Fr h₀ L s.heap m → (Mine.base.heap_1 w.params).In h₀ → News h₀ L s.heap (ex ++ news) → Top topProg LO mean mg mb h₀ → cs.kind = .function → dp + c < recursionLimit → un + 8 * c < cLine → Apart ex news →
    (∀ r news' h' tk', Fr h₀ L h' m → News h₀ L h' (ex ++ news') → Apart ex news' → Ret r news' → Q r { s with heap := h', toks := tk' }) →
    wpAny (model PySem.Challenge.rw_pb0252_01.row.prog w) (ktrTop dp un gd cn cs L a ccd cl outer) (call (.ref f) args) Q E s
noncomputable def BodyEnd (g : Heap) (L' : Addr) (s₁ : Shared) (Ret : Value → Led → Prop) (fl : Flow) (s' : Shared) : Prop :=
  ∃ h' tk m' news', s' = { s₁ with heap := h', toks := tk } ∧ Fr g L' h' m' ∧ News g L' h' news' ∧ Ret (match fl with | .ret v => v | _ => .none) news'
theorem BodyEnd.intro {g : Heap} {L' : Addr} {s₁ : Shared} {Ret : Value → Led → Prop} {v : Value} {h' : Heap} {tk : Nat} {m' : Str → Option Value} {news' : Led} (F : Fr g L' h' m') (N : News g L' h' news') (h : Ret v news') :
    BodyEnd g L' s₁ Ret (.ret v) { s₁ with heap := h', toks := tk } := ⟨_, _, _, _, rfl, F, N, h⟩
theorem BodyEnd.sub {g : Heap} {L' : Addr} {s₁ : Shared} {Ret : Value → Led → Prop} {v : Value} {h' : Heap} {tk : Nat} {m' : Str → Option Value} {all ex news' : Led} (F : Fr g L' h' m') (N : News g L' h' all) (S : Split all ex news') (h : Ret v news') :
    BodyEnd g L' s₁ Ret (.ret v) { s₁ with heap := h', toks := tk } := ⟨_, _, _, _, rfl, F, fun p hp => N p (S.eq ▸ List.mem_append_right _ hp), h⟩
theorem BodyEnd.pick {g : Heap} {L' : Addr} {s₁ : Shared} {Ret : Value → Led → Prop} {v : Value} {h' : Heap} {tk : Nat} {m' : Str → Option Value} {all news' : Led} (F : Fr g L' h' m') (N : News g L' h' all) (S : ∀ p ∈ news', p ∈ all) (h : Ret v news') :
    BodyEnd g L' s₁ Ret (.ret v) { s₁ with heap := h', toks := tk } := ⟨_, _, _, _, rfl, F, fun p hp => N p (S p hp), h⟩
theorem BodyEnd.subN {g : Heap} {L' : Addr} {s₁ : Shared} {Ret : Value → Led → Prop} {h' : Heap} {tk : Nat} {m' : Str → Option Value} {all ex news' : Led} (F : Fr g L' h' m') (N : News g L' h' all) (S : Split all ex news') (h : Ret .none news') :
    BodyEnd g L' s₁ Ret .next { s₁ with heap := h', toks := tk } := ⟨_, _, _, _, rfl, F, fun p hp => N p (S.eq ▸ List.mem_append_right _ hp), h⟩
section
variable {w : World} {mean : ExcName → Option Value} {mg mb : Str → Option Value} {c : Nat} {f : Addr} {args : List Value} {news : Led} {Ret : Value → Led → Prop}
theorem Does.of {name qual : Str} {params : Arguments} {body : List Stmt} {scope : Scope} {dV kV doc pm cdv ct oc : Value} {an od : Option Addr} {osl : Array (Option Value)} (binds : List (Str × Value))
    (hf : (Mine.base.heap_1 w.params).lookup f = some ⟨oc, od, .func (fnOf name qual params body scope dV kV doc pm an cdv ct), osl⟩) (hcd : codeIn (Mine.base.heap_1 w.params) cdv qual = true)
    (hb : ∀ s : Shared, (Mine.base.heap_1 w.params).In s.heap → BindsTo s (fnOf name qual params body scope dV kV doc pm an cdv ct) ⟨args, []⟩ binds)
    (hloc : ∀ y ∈ binds, scope.names.lookup y.1 = some .local)
    (hco : scope.isCoroutine = false) (hgen : scope.isGenerator = false) (hk : scope.kind = .function) (hcell : ∀ x ∈ scope.names, x.2 ≠ .cell)
    (h : ∀ (dp un : Nat) (gd : Option (List Code)) (cn : Str) (cs : Scope) (a : Addr) (ccd : Value) (cl : List (Str × Addr)) (outer : List Env) (base : Heap) (L : Addr) (g : Heap) (L' : Addr) (s₁ : Shared),
      Fr g L' s₁.heap (fun y => binds.reverse.lookup y) → (Mine.base.heap_1 w.params).In g → News g L' s₁.heap news → Below (ktrTop dp un gd cn cs L a ccd cl outer) base (envX cn cs L a ccd cl :: outer) g → Top topProg LO mean mg mb g → cs.kind = .function →
      dp + (c + 1) < recursionLimit → un + 8 * (c + 1) < cLine → (∀ p ∈ news, p.1 < L') →
      wpAny (model PySem.Challenge.rw_pb0252_01.row.prog w) ((ktrTop dp un gd cn cs L a ccd cl outer).deeper (envOf qual scope L' f cdv)) (execs body (envOf qual scope L' f cdv)) (BodyEnd g L' s₁ Ret) (fun _ _ => False) s₁) :
    Does w mean mg mb (c + 1) f args news Ret := by
  intro dp un gd cn cs a ccd cl outer A₀ base h₀ L m s Q E ex B F X N T hK hR hU hap hret
  refine wpAny_call ?_
  have N₂ : News h₀ L s.heap news := fun p hp => N p (List.mem_append_right _ hp)
  obtain ⟨FG, BG, st, lv⟩ := groundX (A := ktrTop dp un gd cn cs L a ccd cl outer) (env := envX cn cs L a ccd cl) (R := fun r s' => match r with | .ok (.ret v) => Q v s' | .ok _ => False | .error e => E e s') B F N₂ rfl rfl hK
  refine codeAny_call_def (fd := fnOf name qual params body scope dV kV doc pm an cdv ct) (body := body) (binds := binds) ?_ ((X.keeps F.keep) _ _ hf) rfl (T.nolimit.keeps F.keep) (codeRec_of (X.keeps F.keep) hcd) rfl (hb s (X.keeps F.keep)) hcell hloc (fun h₁ hns hk₁ => ?_) hco hgen hk
  · show dp < recursionLimit
    omega
  · have gx : ∀ p ∈ ex, (hideAll s.heap (news.map (·.1))).get? p.1 = some p.2 := fun p hp => hideAll_get _ (N p (List.mem_append_left _ hp)).1 fun q => by
      obtain ⟨q', hq, e⟩ := List.mem_map.mp q
      exact hap p hp q' hq e.symm
    refine wpAny_mono (h dp un gd cn cs a ccd cl outer _ L _ s.heap.objs.size { s with heap := h₁, toks := s.toks + binds.length } ⟨hns, fun b o e => hk₁ b o (of_hideAll _ e), Nat.le_of_eq (hideAll_size _ _)⟩ (X.keeps st)
      (fun p hp => ⟨hk₁ _ _ (N₂ p hp).1, Nat.ne_of_lt (Heap.lt_size (N₂ p hp).1), hideAll_none _ (List.mem_map_of_mem hp)⟩) BG (T.keeps st) hK hR hU (fun p hp => Heap.lt_size (N₂ p hp).1)) ?_ (fun _ _ e => e.elim)
    rintro fl s' ⟨h', tk, m', news', rfl, F1, N1, hr⟩
    refine lv _ _ ⟨_, _, _, F1, N1, fun F2 N2 => hret _ _ _ _ F2 (fun p hp => ?_) (fun p hp q hq e => ?_) hr⟩
    rcases List.mem_append.mp hp with hp | hp
    · exact ⟨F1.keep _ _ (gx p hp), (N p (List.mem_append_left _ hp)).2⟩
    · exact N2 p hp
    · exact absurd ((gx p hp).symm.trans (e ▸ (N1 q hq).2.2)) (by simp)
theorem Does.mono {Ret' : Value → Led → Prop} (D : Does w mean mg mb c f args news Ret) (h : ∀ r n, Ret r n → Ret' r n) : Does w mean mg mb c f args news Ret' :=
  fun _ _ _ _ _ _ _ _ _ _ _ _ _ _ _ _ _ _ B F X N T hk hd hu ap ret => D _ _ _ _ _ _ _ _ _ _ _ _ _ _ _ _ _ _ B F X N T hk hd hu ap fun r n h' tk' F' N' ap' hr => ret r n h' tk' F' N' ap' (h r n hr)
theorem Does.use {dp un : Nat} {gd : Option (List Code)} {cn : Str} {cs : Scope} {a : Addr} {ccd : Value} {cl : List (Str × Addr)} {outer : List Env} {A₀ : Around} {base h₀ : Heap} {L : Addr} {m : Str → Option Value} {s : Shared} {Q E : Value → Shared → Prop} {all ex : Led}
    (D : Does w mean mg mb c f args news Ret) (B : Below A₀ base outer h₀) (F : Fr h₀ L s.heap m) (X : (Mine.base.heap_1 w.params).In h₀) (N : News h₀ L s.heap all) (S : Split all ex news) (T : Top topProg LO mean mg mb h₀) (hk : cs.kind = .function)
    (hd : dp + c < recursionLimit) (hu : un + 8 * c < cLine) (ap : Apart ex news)
    (ret : ∀ r news' h' tk', Fr h₀ L h' m → News h₀ L h' (ex ++ news') → Apart ex news' → Ret r news' → Q r { s with heap := h', toks := tk' }) :
    wpAny (model PySem.Challenge.rw_pb0252_01.row.prog w) (ktrTop dp un gd cn cs L a ccd cl outer) (call (.ref f) args) Q E s := D _ _ _ _ _ _ _ _ _ _ _ _ _ _ _ _ _ _ B F X (S.eq ▸ N) T hk hd hu ap ret
end
section
variable {prog : Program} {w : World} {A : Around} {E : Value → Shared → Prop} {s : Shared} {h₀ : Heap} {L l : Addr} {news : Led} {vs : List Value} {nv : Nat}
theorem isList_mem (N : News h₀ L s.heap news) (hm : (l, listOf vs.toArray nv) ∈ news) : s.heap.IsList l vs.toArray := ⟨_, (N _ hm).1, rfl, _, rfl⟩
theorem len_mem {Q : Value → Shared → Prop} (N : News h₀ L s.heap news) (hm : (l, listOf vs.toArray nv) ∈ news) (hb : (vs.length : Int) < 2 ^ 63) (h : Q (.int vs.length (s.toks + 1)) { s with toks := s.toks + 1 + 1 }) :
    wpAny (model prog w) A (call (.builtin "len") [.ref l]) Q E s := by
  have e : vs.toArray.size = vs.length := List.size_toArray
  exact call_len_list (isList_mem N hm) (by rw [e]; exact hb) (by rw [e]; exact h)
theorem item_mem {value slice : PySem.Expr} {k : Int} {u : Tok} {v : Value} {Q : Value → Shared → Prop} (N : News h₀ L s.heap news) (hm : (l, listOf vs.toArray nv) ∈ news) (h0 : 0 ≤ k) (hhi : k < 2 ^ 63) (hx : vs[k.toNat]? = some v) (h : Q v s)
    (hs : subscripted slice false (.ref l) (.int k u) = operate [.ref l, .int k u] (getItem (.ref l) (.int k u)) := by with_unfolding_all rfl) :
    wpAny (model prog w) A (subscriptTail value slice (.ref l) (.int k u)) Q E s :=
  tail_any (isList_mem N hm).typeIs slot_list_getitem.lookup (wpAny_getItem_list (isList_mem N hm) h0 hhi (by simpa using hx) h) hs
end
section
variable {prog : Program} {w : World} {A : Around} {E : Value → Shared → Prop} {s : Shared} {h₀ : Heap} {L : Addr} {m : PySem.Str → Option Value} {news : Led} {x y : PySem.Str} {t u : Tok} {Q : Value → Shared → Prop}
theorem split_one (hF : Fr h₀ L s.heap m) (hN : News h₀ L s.heap news) (hW : Txt.split x y = [x]) (hy : (y.length == 0) = false)
    (h : ∀ D tk h' k, Fr h₀ L h' m → News h₀ L h' ((D, listOf #[Value.str x tk] 0) :: news) → (∀ p ∈ news, p.1 < D) → Q (.ref D) { s with heap := h', toks := k }) (hsz : x.length + 2 ≤ sizeLine) :
    wpAny (model prog w) A (call (.builtin "str.split") [.str x t, .str y u]) Q E s := by
  refine KSpl.split1 hF hN hy (fun D l h' k e1 _ F N lt => ?_) hsz
  rw [hW] at e1
  obtain ⟨tk, l', rfl, e2⟩ := KSpl.cons_of e1
  obtain rfl := KSpl.nil_of e2
  exact h D tk h' k F N lt
theorem append_up {D : Addr} {vals : List Value} {n : Nat} {v : Value} {news' : Led} {Q : Value → Shared → Prop} (F : Fr h₀ L s.heap m) (N : News h₀ L s.heap news) (U : Upd D (listOf vals.toArray n) (listOf (vals ++ [v]).toArray (n + 1)) news news') (hz : vals.length ≤ 1000)
    (h : ∀ h', Fr h₀ L h' m → News h₀ L h' news' → Q .none { s with heap := h' }) : wpAny (model prog w) A (call (.builtin "list.append") [.ref D, v]) Q E s := by
  have e : vals.toArray.push v = (vals ++ [v]).toArray := by simp
  rw [← e] at U
  exact append_K F N U h (by rw [List.size_toArray]; exact Nat.le_trans hz (by decide))
noncomputable abbrev tupO (vs : List Value) : Obj := { cls := .type "tuple", data := .seq vs.toArray }
theorem tuple_mem {l : Addr} {vals : List Value} {nv : Nat} {Q : Value → Shared → Prop} (F : Fr h₀ L s.heap m) (N : News h₀ L s.heap news) (hm : (l, listOf vals.toArray nv) ∈ news) (hz : vals.length ≤ 1000)
    (h : ∀ D h', Fr h₀ L h' m → News h₀ L h' ((D, tupO vals) :: news) → (∀ p ∈ news, p.1 < D) → Q (.ref D) { s with heap := h' }) : wpAny (model prog w) A (call (.type "tuple") [.ref l]) Q E s :=
  kde_tupleOf F N ⟨_, (N _ hm).1, rfl, _, rfl⟩ (by rw [List.size_toArray]; omega) rfl h
theorem sub3 {a b c : Addr × Obj} {r : Led} : ∀ p ∈ a :: b :: r, p ∈ a :: b :: c :: r := fun p hp => by
  rcases List.mem_cons.mp hp with rfl | hp
  · exact .head _
  · rcases List.mem_cons.mp hp with rfl | hp
    · exact .tail _ (.head _)
    · exact .tail _ (.tail _ (.tail _ hp))
theorem News.less {a : Addr × Obj} {h : Heap} (N : News h₀ L h (a :: news)) : News h₀ L h news := fun p hp => N p (List.mem_cons_of_mem _ hp)
end
section
variable {prog : Program} {w : World} {A : Around} {E : Value → Shared → Prop} {s : Shared} {env : Env} {h₀ : Heap} {x : Str} {body : List Stmt} {Q : Flow → Shared → Prop}
theorem rest_inv {I : Addr} {lp : Addr × Obj} {vs : List Value} (J : List Value → (Str → Option Value) → Led → Prop)
    (turn : ∀ it v r m₁ news₁ h tk, (∃ pre, vs = pre ++ v :: r) → J (v :: r) m₁ news₁ → lp ∈ news₁ → (∀ p ∈ news₁, p.1 ≠ I) → Fr h₀ env.locals h (fun y => if y = x then some v else m₁ y) → News h₀ env.locals h ((I, it) :: news₁) →
      wpAny (model prog w) A (execs body env) (UnrPost h₀ env.locals { s with heap := h, toks := tk } I it (fun m' n' => lp ∈ n' ∧ J r m' n') Q) E { s with heap := h, toks := tk })
    (done : ∀ m₁ news₁ h tk, J [] m₁ news₁ → lp ∈ news₁ → Fr h₀ env.locals h m₁ → News h₀ env.locals h news₁ → Q .next { s with heap := h, toks := tk }) :
    ∀ r m news, (∃ pre, vs = pre ++ r) → J r m news → lp ∈ news → (∀ p ∈ news, p.1 ≠ I) → ListRest prog w A E h₀ env x body Q s I lp r m news
  | [], m, news, _, hj, hl, _ => fun h tk F N => done m news h tk hj hl F N
  | v :: r, m, news, hp, hj, hl, ho => fun it h tk _ F N => by
    refine wpAny_mono (turn it v r m news h tk hp hj hl ho F N) (fun f s₂ p => ?_) fun _ _ e => e
    have fin : UnrEnd h₀ env.locals { s with heap := h, toks := tk } I it (fun m' n' => lp ∈ n' ∧ J r m' n') s₂ → UnrEnd h₀ env.locals { s with heap := h, toks := tk } I it (fun m' n' => lp ∈ n' ∧ ListRest prog w A E h₀ env x body Q s I lp r m' n') s₂ := by
      rintro ⟨h', tk', m', news', e, F', N', off, hl', hj'⟩
      exact ⟨h', tk', m', news', e, F', N', off, hl', rest_inv J turn done r m' news' (by obtain ⟨pre, rfl⟩ := hp; exact ⟨pre ++ [v], by simp⟩) hj' hl' off⟩
    cases f with
    | ret v => exact p
    | brk => exact p
    | next => exact fin p
    | cont => exact fin p
/-- a loop over a list of the ledger, by what holds of what is still to come -/
theorem loop_list {ax : Addr} {vs : List Value} {n : Nat} {m₀ : Str → Option Value} {news : Led} (hh : A.handled = none) (F : Fr h₀ env.locals s.heap m₀) (N : News h₀ env.locals s.heap news) (hm : (ax, listOf vs.toArray n) ∈ news)
    (J : List Value → (Str → Option Value) → Led → Prop) (start : J vs m₀ news)
    (turn : ∀ I it v r m₁ news₁ h tk, (∃ pre, vs = pre ++ v :: r) → J (v :: r) m₁ news₁ → (ax, listOf vs.toArray n) ∈ news₁ → (∀ p ∈ news₁, p.1 ≠ I) → Fr h₀ env.locals h (fun y => if y = x then some v else m₁ y) → News h₀ env.locals h ((I, it) :: news₁) →
      wpAny (model prog w) A (execs body env) (UnrPost h₀ env.locals { s with heap := h, toks := tk } I it (fun m' n' => (ax, listOf vs.toArray n) ∈ n' ∧ J r m' n') Q) E { s with heap := h, toks := tk })
    (done : ∀ m₁ news₁ h tk, J [] m₁ news₁ → (ax, listOf vs.toArray n) ∈ news₁ → Fr h₀ env.locals h m₁ → News h₀ env.locals h news₁ → Q .next { s with heap := h, toks := tk }) :
    wpAny (model prog w) A (pyIter (.ref ax)) (fun it s₂ => LoopAtV prog w A h₀ env x body Q E it s₂) E s :=
  iter_listUnr hh F N hm rfl rfl fun I hI => rest_inv J (turn I) done vs m₀ news ⟨[], rfl⟩ start hm fun p hp => Nat.ne_of_lt (hI p hp)
end
noncomputable abbrev rdrEs (w : World) (k1 k2 k3 : Tok) (tl : Addr) (i : Int) (ti : Tok) (nd : Addr) : List DictEntry :=
  [⟨PyData.keyHash w.params (Str.ofString "tokens"), .str (Str.ofString "tokens") k1, .ref tl⟩, ⟨PyData.keyHash w.params (Str.ofString "at"), .str (Str.ofString "at") k2, .int i ti⟩, ⟨PyData.keyHash w.params (Str.ofString "named"), .str (Str.ofString "named") k3, .ref nd⟩]
noncomputable abbrev tokEs (w : World) (a b c d : Tok) (kind worth p q : Value) : List DictEntry :=
  [⟨PyData.keyHash w.params (Str.ofString "kind"), .str (Str.ofString "kind") a, kind⟩, ⟨PyData.keyHash w.params (Str.ofString "worth"), .str (Str.ofString "worth") b, worth⟩,
   ⟨PyData.keyHash w.params (Str.ofString "at"), .str (Str.ofString "at") c, p⟩, ⟨PyData.keyHash w.params (Str.ofString "is_in_a"), .str (Str.ofString "is_in_a") d, q⟩]
/-- the value is a token of that kind and worth -/
noncomputable def TokAt (w : World) (led : Led) (v : Value) (kd wo : Str) : Prop :=
  ∃ t dt a b c d u1 u2 p q, v = .ref t ∧ (t, instObj 294 dt) ∈ led ∧ (dt, dictOf (tokEs w a b c d (.str kd u1) (.str wo u2) p q) 4) ∈ led
/-- a reader's names: its object, its dict, its list of tokens, the dict's keys' tokens -/
structure RN where
  x : Addr
  dx : Addr
  tl : Addr
  nd : Addr
  k1 : Tok
  k2 : Tok
  k3 : Tok
  vs : List Value
  nv : Nat
noncomputable abbrev RL (w : World) (R : RN) (rest : Led) (i : Int) (ti : Tok) : Led := (R.dx, dictOf (rdrEs w R.k1 R.k2 R.k3 R.tl i ti R.nd) 3) :: rest
theorem off_RL {w : World} {R : RN} {rest : Led} {i : Int} {ti : Tok} {a : Addr} (h : a ≠ R.dx) (h' : ∀ q ∈ rest, a ≠ q.1) : ∀ q ∈ RL w R rest i ti, a ≠ q.1 := fun q hq => by
  rcases List.mem_cons.mp hq with rfl | hq
  · exact h
  · exact h' q hq
theorem endW {h₀ : Heap} {L a : Addr} {o : Obj} {rest : (Str → Option Value) → Led → Prop} {s₁ : Shared} {h' : Heap} {tk : Nat} {m' : Str → Option Value} {news' : Led} (F : Fr h₀ L h' m') (N : News h₀ L h' ((a, o) :: news')) (off : ∀ q ∈ news', q.1 ≠ a) (r : rest m' news') :
    UnrEndW h₀ L s₁ [(a, o)] rest { s₁ with heap := h', toks := tk } := ⟨h', tk, m', news', rfl, F, N, fun p hp q hq => by
    rw [List.mem_singleton.mp hq]
    exact off p hp, r⟩
theorem off_lt {rest : Led} {a : Addr} (h : ∀ q ∈ rest, q.1 < a) : ∀ q ∈ rest, a ≠ q.1 := fun q hq => Nat.ne_of_gt (h q hq)
theorem off_ne {rest : Led} {a : Addr} (h : ∀ q ∈ rest, q.1 ≠ a) : ∀ q ∈ rest, a ≠ q.1 := fun q hq => Ne.symm (h q hq)
theorem all_RL {w : World} {R : RN} {rest : Led} {i : Int} {ti : Tok} {a : Addr} (h : a ≠ R.dx) (h' : ∀ q ∈ rest, a ≠ q.1) : ∀ q ∈ RL w R rest i ti, q.1 ≠ a := fun q hq => Ne.symm (off_RL h h' q hq)
theorem allLt_all {d : Addr} : ∀ {l : Led}, AllLt d l → ∀ p ∈ l, p.1 < d := by
  intro l
  induction l with
  | nil => intro _ p hp; cases hp
  | cons a r ih =>
    intro h p hp
    rcases List.mem_cons.mp hp with rfl | hp
    · exact h.1
    · exact ih h.2 p hp
theorem strs_push {vs : List Value} {ys : List Str} (h : StrsAre vs ys) (y : Str) (t : Tok) : StrsAre (vs ++ [.str y t]) (ys ++ [y]) := by
  induction h with
  | nil => exact .cons y t .nil
  | cons a u _ ih => exact .cons a u ih
theorem cast1 {i : Int} {k : Nat} : i + k + 1 = i + ((k + 1 : Nat) : Int) := by omega
theorem take1 {vs : List Value} {ys : List Str} {k : Nat} {y : Str} (t : Tok) (h : StrsAre vs (ys.take k)) (e : ys[k]? = some y) : StrsAre (vs ++ [.str y t]) (ys.take (k + 1)) := by
  rw [List.take_add_one, e]
  exact strs_push h y t
theorem led1 {w : World} {R : RN} {rest : Led} {i : Int} {ti : Tok} {l : Addr} {vals : List Value} {nv k : Nat} :
    ((l, listOf vals.toArray nv) :: RL w R rest (i + k + 1) ti : Led) = (l, listOf vals.toArray nv) :: RL w R rest (i + ((k + 1 : Nat) : Int)) ti := by
  rw [cast1]
theorem strs_len {vs : List Value} {ys : List Str} (h : StrsAre vs ys) : vs.length = ys.length := by
  induction h with
  | nil => rfl
  | cons _ _ _ ih => rw [List.length_cons, List.length_cons, ih]
/-- the tokens' kinds and worths -/
noncomputable def Toks (w : World) (R : RN) (rest : Led) (T : List (Str × Str)) : Prop := ∀ (k : Nat) (kw : Str × Str), T[k]? = some kw → ∃ v, R.vs[k]? = some v ∧ TokAt w rest v kw.1 kw.2
theorem Toks.at {w : World} {R : RN} {rest : Led} {T : List (Str × Str)} (H : Toks w R rest T) {i : Int} {kd wo : Str} (h : T[i.toNat]? = some (kd, wo)) : ∃ v, R.vs[(i + (0 : Nat)).toNat]? = some v ∧ TokAt w rest v kd wo := by
  obtain ⟨v, h1, h2⟩ := H _ _ h
  exact ⟨v, by rw [Int.natCast_zero, Int.add_zero]; exact h1, h2⟩
/-- the values are tuples (mode, name) of the ledger -/
inductive RowsIn (led : Led) : List Value → List (Str × Str) → Prop
  | nil : RowsIn led [] []
  | cons {a : Addr} {m n : Str} {u u' : Tok} {vs : List Value} {rs : List (Str × Str)} : (a, tupO [.str m u, .str n u']) ∈ led → RowsIn led vs rs → RowsIn led (.ref a :: vs) ((m, n) :: rs)
theorem RowsIn.mono {led led' : Led} {vs : List Value} {rs : List (Str × Str)} (h : RowsIn led vs rs) (s : ∀ p ∈ led, p ∈ led') : RowsIn led' vs rs := by
  induction h with
  | nil => exact .nil
  | cons hm _ ih => exact .cons (s _ hm) ih
theorem RowsIn.push {led : Led} {vs : List Value} {rs : List (Str × Str)} {a : Addr} {m n : Str} {u u' : Tok} (h : RowsIn led vs rs) (hm : (a, tupO [.str m u, .str n u']) ∈ led) : RowsIn led (vs ++ [.ref a]) (rs ++ [(m, n)]) := by
  induction h with
  | nil => exact .cons hm .nil
  | cons h1 _ ih => exact .cons h1 ih
theorem RowsIn.length {led : Led} {vs : List Value} {rs : List (Str × Str)} (h : RowsIn led vs rs) : vs.length = rs.length := by
  induction h with
  | nil => rfl
  | cons _ _ ih => rw [List.length_cons, List.length_cons, ih]
structure Rd (R : RN) (rest : Led) : Prop where
  inst : (R.x, instObj 264 R.dx) ∈ rest
  list : (R.tl, listOf R.vs.toArray R.nv) ∈ rest
  small : R.vs.length < 100
  ne : ∀ p ∈ rest, p.1 ≠ R.dx
end Mine
theorem Mine.kNoneC0 : True := by
  k_with_none
  w_top off
  exact trivial
end C0
section C1
open PySem PySem.W PySem.Calls PyProof.Rows
set_option linter.unusedSimpArgs false
set_option maxRecDepth 100000
set_option maxHeartbeats 8000000
local macro_rules | `(tactic| walk_at $s:str) => `(tactic| k_extra $s)
local macro_rules | `(tactic| k_room) => `(tactic| ktr_room)
local macro_rules | `(tactic| k_mem) => `(tactic| first | assumption | exact List.mem_cons_self | (refine List.mem_cons_of_mem _ ?_; k_mem))
local macro_rules | `(tactic| k_ne) => `(tactic| first | assumption | exact Ne.symm (by assumption) | exact Nat.ne_of_gt (by assumption) | exact Nat.ne_of_lt (by assumption))
local macro_rules | `(tactic| k_all) => `(tactic| first | assumption | exact Mine.all_RL (by first | assumption | exact Nat.ne_of_gt (by assumption)) (by first | exact Mine.off_lt (by assumption) | exact Mine.off_ne (by assumption)))
namespace Mine
section
variable {w : World} {mean : ExcName → Option Value} {mg mb : Str → Option Value} {R : RN} {rest : Led} {ti : Tok} {i : Int} {j : Nat} {tj : Tok} {v : Value}
theorem peek_does (args : List Value) (H : Rd R rest) (hi : 0 ≤ i) (hv : R.vs[(i + j).toNat]? = some v)
    (ha : args = [.ref R.x, .int j tj] ∨ (args = [.ref R.x] ∧ j = 0 ∧ tj = 324)) :
    Does w mean mg mb 1 118 args (RL w R rest i ti) (fun r n => n = RL w R rest i ti ∧ r = v) := by
  have hlt := (List.getElem?_eq_some_iff.mp hv).1
  have hs := H.small
  refine' Does.of [(Str.ofString "self", .ref R.x), (Str.ofString "ahead", .int j tj)] ?hf ?hcd ?hb ?hl ?c1 ?c2 ?c3 ?c4 ?h
  case hf => exact rfl
  case hcd => exact rfl
  case hb =>
    rcases ha with rfl | ⟨rfl, rfl, rfl⟩
    · exact fun s X => binds_K X rfl rfl rfl rfl rfl
    · exact fun s X => binds_K X rfl rfl rfl rfl rfl
  case hl => exact locs rfl
  case c1 => exact rfl
  case c2 => exact rfl
  case c3 => exact rfl
  case c4 => decide
  intro dp un gd cn cs a ccd cl outer base L g L' s₁ F X N B T hK hR hU hLt
  revert X; k_fill; intro X
  have i1 := H.inst
  have i2 := H.list
  have i3 := H.ne
  k_with_none
  k_with "call builtin:len" => (k_here; (with_reducible show wpAny _ _ (call (Value.builtin "len") [Value.ref _]) _ _ _); k_dflt (refine' Mine.len_mem ?k1 ?k2 ?k3 ?_; (case k1 => k_asm); (case k2 => k_mem); (case k3 => omega); k_whole))
  k_with "subscriptTail" => (k_here; (with_reducible show wpAny _ _ (subscriptTail _ _ (Value.ref _) (Value.int _ _)) _ _ _); k_dflt (refine' Mine.item_mem ?k1 ?k2 ?k3 ?k4 ?k5 ?_ ?k6; (case k1 => k_asm); (case k2 => k_mem); (case k3 => omega); (case k4 => omega); (case k5 => assumption); (case k6 => with_unfolding_all rfl); k_whole))
  k_steps
  all_goals exact BodyEnd.intro (by k_asm) (by k_asm) ⟨rfl, rfl⟩
end
end Mine
theorem Mine.kNoneC1 : True := by
  k_with_none
  w_top off
  exact trivial
end C1
section C2
open PySem PySem.W PySem.Calls PyProof.Rows
set_option linter.unusedSimpArgs false
set_option maxRecDepth 100000
set_option maxHeartbeats 8000000
local macro_rules | `(tactic| walk_at $s:str) => `(tactic| k_extra $s)
local macro_rules | `(tactic| k_room) => `(tactic| ktr_room)
local macro_rules | `(tactic| k_mem) => `(tactic| first | assumption | exact List.mem_cons_self | (refine List.mem_cons_of_mem _ ?_; k_mem))
local macro_rules | `(tactic| k_ne) => `(tactic| first | assumption | exact Ne.symm (by assumption) | exact Nat.ne_of_gt (by assumption) | exact Nat.ne_of_lt (by assumption))
local macro_rules | `(tactic| k_all) => `(tactic| first | assumption | exact Mine.all_RL (by first | assumption | exact Nat.ne_of_gt (by assumption)) (by first | exact Mine.off_lt (by assumption) | exact Mine.off_ne (by assumption)))
namespace Mine
section
variable {w : World} {mean : ExcName → Option Value} {mg mb : Str → Option Value} {R : RN} {rest : Led} {ti : Tok} {i : Int} {j : Nat} {tj : Tok} {v : Value}
theorem is_kind_does {kd wo : Str} {tw : Tok} (args : List Value) (H : Rd R rest) (hi : 0 ≤ i) (hv : R.vs[(i + j).toNat]? = some v) (ht : TokAt w rest v kd wo)
    (ha : args = [.ref R.x, .str (Str.ofString "word") tw, .int j tj] ∨ (args = [.ref R.x, .str (Str.ofString "word") tw] ∧ j = 0 ∧ tj = 356)) :
    Does w mean mg mb 2 147 args (RL w R rest i ti) (fun r n => n = RL w R rest i ti ∧ r = .bool (kd == Str.ofString "word")) := by
  obtain ⟨t, dt, a, b, c, d, u1, u2, p, q, rfl, q1, q2⟩ := ht
  refine' Does.of [(Str.ofString "self", .ref R.x), (Str.ofString "kind", .str (Str.ofString "word") tw), (Str.ofString "ahead", .int j tj)] ?hf ?hcd ?hb ?hl ?c1 ?c2 ?c3 ?c4 ?h
  case hf => exact rfl
  case hcd => exact rfl
  case hb =>
    rcases ha with rfl | ⟨rfl, rfl, rfl⟩
    · exact fun s X => binds_K X rfl rfl rfl rfl rfl
    · exact fun s X => binds_K X rfl rfl rfl rfl rfl
  case hl => exact locs rfl
  case c1 => exact rfl
  case c2 => exact rfl
  case c3 => exact rfl
  case c4 => decide
  intro dp un gd cn cs a ccd cl outer base L g L' s₁ F X N B T hK hR hU hLt
  revert X; k_fill; intro X
  have i1 := H.inst
  have i2 := H.list
  have i3 := H.ne
  k_with_none
  k_with "call ref" => (k_here; (with_reducible show wpAny _ _ (call (Value.ref 118) _) _ _ _); k_dflt (refine' Mine.Does.use (Mine.peek_does _ H ?p2 ?p3 ?p4) ?k1 ?k2 ?k3 ?k4 ?kS ?k5 ?k6 ?k7 ?k8 ?kA ?_; (case k1 => k_asm); (case k2 => k_asm); (case k3 => k_asm); (case k4 => k_asm); (case kS => repeat' (first | exact Mine.Split.nil | refine' Mine.Split.cons ?_)); (case k5 => k_asm); (case k6 => first | exact rfl | assumption); (case k7 => ktr_room); (case k8 => ktr_units); (case kA => repeat' (first | exact Mine.Apart.nil | refine' Mine.Apart.cons (Mine.off_RL (by first | assumption | exact Ne.symm (by assumption) | exact Nat.ne_of_gt (by assumption) | exact Nat.ne_of_gt (And.left (by assumption))) (by first | exact Mine.off_lt (by assumption) | exact Mine.off_ne (by assumption) | exact Mine.off_lt (Mine.allLt_all (And.right (by assumption))))) ?_)); (case p2 => first | assumption | omega); (case p3 => assumption); (case p4 => first | exact .inl rfl | exact .inr ⟨rfl, rfl, rfl⟩); k_whole); intro r' n' h' tk' F' N' ap' hr'; (try k_sweep); obtain ⟨e1, e2⟩ := hr'; subst e1; subst e2; (all_goals (try simp only [List.nil_append, List.cons_append] at N')))
  k_steps
  all_goals exact BodyEnd.intro (by k_asm) (by k_asm) ⟨rfl, rfl⟩
end
end Mine
theorem Mine.kNoneC2 : True := by
  k_with_none
  w_top off
  exact trivial
end C2
section C3
open PySem PySem.W PySem.Calls PyProof.Rows
set_option linter.unusedSimpArgs false
set_option maxRecDepth 100000
set_option maxHeartbeats 8000000
local macro_rules | `(tactic| walk_at $s:str) => `(tactic| k_extra $s)
local macro_rules | `(tactic| k_room) => `(tactic| ktr_room)
local macro_rules | `(tactic| k_mem) => `(tactic| first | assumption | exact List.mem_cons_self | (refine List.mem_cons_of_mem _ ?_; k_mem))
local macro_rules | `(tactic| k_ne) => `(tactic| first | assumption | exact Ne.symm (by assumption) | exact Nat.ne_of_gt (by assumption) | exact Nat.ne_of_lt (by assumption))
local macro_rules | `(tactic| k_all) => `(tactic| first | assumption | exact Mine.all_RL (by first | assumption | exact Nat.ne_of_gt (by assumption)) (by first | exact Mine.off_lt (by assumption) | exact Mine.off_ne (by assumption)))
namespace Mine
section
variable {w : World} {mean : ExcName → Option Value} {mg mb : Str → Option Value} {R : RN} {rest : Led} {ti : Tok} {i : Int} {j : Nat} {tj : Tok} {v : Value}
theorem is_word_does {kd wo W : Str} {tw : Tok} (H : Rd R rest) (hi : 0 ≤ i) (hv : R.vs[(i + (0 : Nat)).toNat]? = some v) (ht : TokAt w rest v kd wo) (hW : Txt.split W (Str.ofString " ") = [W]) (hz : W.length + 2 ≤ sizeLine) :
    Does w mean mg mb 3 154 [.ref R.x, .str W tw] (RL w R rest i ti) (fun r n => n = RL w R rest i ti ∧ r = .bool (kd == Str.ofString "word" && wo == W)) := by
  obtain ⟨t, dt, a, b, c, d, u1, u2, p, q, rfl, q1, q2⟩ := id ht
  refine' Does.of [(Str.ofString "self", .ref R.x), (Str.ofString "words", .str W tw)] ?hf ?hcd ?hb ?hl ?c1 ?c2 ?c3 ?c4 ?h
  case hf => exact rfl
  case hcd => exact rfl
  case hb =>
    exact fun s X => BindsTo.of_eq rfl
  case hl => exact locs rfl
  case c1 => exact rfl
  case c2 => exact rfl
  case c3 => exact rfl
  case c4 => decide
  intro dp un gd cn cs a ccd cl outer base L g L' s₁ F X N B T hK hR hU hLt
  revert X; k_fill; intro X
  have i1 := H.inst
  have i2 := H.list
  have i3 := H.ne
  k_with_none
  k_with "call ref" => (k_here; (with_reducible show wpAny _ _ (call (Value.ref 118) _) _ _ _); k_dflt (refine' Mine.Does.use (Mine.peek_does _ H ?p2 ?p3 ?p4) ?k1 ?k2 ?k3 ?k4 ?kS ?k5 ?k6 ?k7 ?k8 ?kA ?_; (case k1 => k_asm); (case k2 => k_asm); (case k3 => k_asm); (case k4 => k_asm); (case kS => repeat' (first | exact Mine.Split.nil | refine' Mine.Split.cons ?_)); (case k5 => k_asm); (case k6 => first | exact rfl | assumption); (case k7 => ktr_room); (case k8 => ktr_units); (case kA => repeat' (first | exact Mine.Apart.nil | refine' Mine.Apart.cons (Mine.off_RL (by first | assumption | exact Ne.symm (by assumption) | exact Nat.ne_of_gt (by assumption) | exact Nat.ne_of_gt (And.left (by assumption))) (by first | exact Mine.off_lt (by assumption) | exact Mine.off_ne (by assumption) | exact Mine.off_lt (Mine.allLt_all (And.right (by assumption))))) ?_)); (case p2 => first | assumption | omega); (case p3 => assumption); (case p4 => first | exact .inl rfl | exact .inr ⟨rfl, rfl, rfl⟩); k_whole); intro r' n' h' tk' F' N' ap' hr'; (try k_sweep); obtain ⟨e1, e2⟩ := hr'; subst e1; subst e2; (all_goals (try simp only [List.nil_append, List.cons_append] at N')))
  k_with "call ref" => (k_here; (with_reducible show wpAny _ _ (call (Value.ref 147) _) _ _ _); k_dflt (refine' Mine.Does.use (Mine.is_kind_does _ H ?p2 ?p3 ?p5 ?p4) ?k1 ?k2 ?k3 ?k4 ?kS ?k5 ?k6 ?k7 ?k8 ?kA ?_; (case k1 => k_asm); (case k2 => k_asm); (case k3 => k_asm); (case k4 => k_asm); (case kS => repeat' (first | exact Mine.Split.nil | refine' Mine.Split.cons ?_)); (case k5 => k_asm); (case k6 => first | exact rfl | assumption); (case k7 => ktr_room); (case k8 => ktr_units); (case kA => repeat' (first | exact Mine.Apart.nil | refine' Mine.Apart.cons (Mine.off_RL (by first | assumption | exact Ne.symm (by assumption) | exact Nat.ne_of_gt (by assumption) | exact Nat.ne_of_gt (And.left (by assumption))) (by first | exact Mine.off_lt (by assumption) | exact Mine.off_ne (by assumption) | exact Mine.off_lt (Mine.allLt_all (And.right (by assumption))))) ?_)); (case p2 => first | assumption | omega); (case p3 => assumption); (case p5 => assumption); (case p4 => first | exact .inl rfl | exact .inr ⟨rfl, rfl, rfl⟩); k_whole); intro r' n' h' tk' F' N' ap' hr'; (try k_sweep); obtain ⟨e1, e2⟩ := hr'; subst e1; subst e2; (all_goals (try simp only [List.nil_append, List.cons_append] at N')))
  k_with "call builtin:str.split" => (k_here; (with_reducible show wpAny _ _ (call (Value.builtin "str.split") _) _ _ _); k_dflt (refine' Mine.split_one ?k1 ?k2 ?k3 ?k4 ?_ ?k5; (case k1 => k_asm); (case k2 => k_asm); (case k3 => assumption); (case k4 => decide); (case k5 => assumption); k_whole); intro D' t' h' k' F' N' l1; (try k_sweep); (try simp only [List.forall_mem_cons] at l1); (repeat (obtain ⟨la, l1⟩ := l1)))
  k_steps
  refine loop_list (vs := [Value.str W t']) (n := 0) rfl F' N' (by k_mem) (fun r m n => n = (D', listOf #[Value.str W t'] 0) :: RL w R rest i ti ∧ match r with | [] => (kd == Str.ofString "word" && wo == W) = true | _ => m = fun y => if y = Str.ofString "ahead" then some (Value.int 0 s₁.toks) else List.lookup y [(Str.ofString "words", Value.str W tw), (Str.ofString "self", Value.ref R.x)]) ⟨rfl, rfl⟩ ?turn ?done
  case turn =>
    rintro I it v r m₁ news₁ h tk ⟨pre, hp⟩ ⟨rfl, hm⟩ hl ho F3 N3
    have hv' : v = .str W t' ∧ r = [] := by
      cases pre with
      | nil => cases hp; exact ⟨rfl, rfl⟩
      | cons a b => cases b <;> cases hp
    obtain ⟨rfl, rfl⟩ := hv'
    dsimp only at hm
    subst hm
    clear F' N'
    have ho0 := ho
    simp only [List.forall_mem_cons] at ho
    obtain ⟨ho1, ho2, ho3⟩ := ho
    k_steps
    all_goals first
      | exact BodyEnd.sub (news' := RL w R rest i ti) (by k_asm) (by k_asm) (by repeat' (first | exact Mine.Split.nil | refine' Mine.Split.cons ?_)) ⟨rfl, congrArg Value.bool (and_f (by assumption)).symm⟩
      | exact BodyEnd.sub (news' := RL w R rest i ti) (by k_asm) (by k_asm) (by repeat' (first | exact Mine.Split.nil | refine' Mine.Split.cons ?_)) ⟨rfl, congrArg Value.bool (and_tf (by assumption) (bneT (by assumption))).symm⟩
      | exact ⟨_, _, _, _, rfl, by k_asm, by k_asm, ho0, List.mem_cons_self, rfl, and_tt (by assumption) (bneF (by assumption))⟩
  case done =>
    rintro m₁ news₁ h tk ⟨rfl, hm⟩ hl F3 N3
    dsimp only at hm
    clear F' N'
    k_steps
    rw [hm]
    refine BodyEnd.sub (news' := RL w R rest i ti) (by k_asm) (by k_asm) (by repeat' (first | exact Mine.Split.nil | refine' Mine.Split.cons ?_)) ⟨rfl, rfl⟩
end
end Mine
theorem Mine.kNoneC3 : True := by
  k_with_none
  w_top off
  exact trivial
end C3
section C4
open PySem PySem.W PySem.Calls PyProof.Rows
set_option linter.unusedSimpArgs false
set_option maxRecDepth 100000
set_option maxHeartbeats 8000000
local macro_rules | `(tactic| walk_at $s:str) => `(tactic| k_extra $s)
local macro_rules | `(tactic| k_room) => `(tactic| ktr_room)
local macro_rules | `(tactic| k_mem) => `(tactic| first | assumption | exact List.mem_cons_self | (refine List.mem_cons_of_mem _ ?_; k_mem))
local macro_rules | `(tactic| k_ne) => `(tactic| first | assumption | exact Ne.symm (by assumption) | exact Nat.ne_of_gt (by assumption) | exact Nat.ne_of_lt (by assumption))
local macro_rules | `(tactic| k_all) => `(tactic| first | assumption | exact Mine.all_RL (by first | assumption | exact Nat.ne_of_gt (by assumption)) (by first | exact Mine.off_lt (by assumption) | exact Mine.off_ne (by assumption)))
namespace Mine
section
variable {w : World} {mean : ExcName → Option Value} {mg mb : Str → Option Value} {R : RN} {rest : Led} {ti : Tok} {i : Int} {j : Nat} {tj : Tok} {v : Value}
theorem skip_t {b : Bool} {t : Tok} (e : b = true) : ∃ ti', RL w R rest (i + 1) t = RL w R rest (if b = true then i + 1 else i) ti' ∧ Value.bool true = Value.bool b := ⟨t, by rw [if_pos e], by rw [e]⟩
theorem skip_f {b : Bool} {t : Tok} (e : b = false) : ∃ ti', RL w R rest i t = RL w R rest (if b = true then i + 1 else i) ti' ∧ Value.bool false = Value.bool b := ⟨t, by rw [e]; rfl, by rw [e]⟩
theorem skip_does {kd wo W : Str} {tw : Tok} (H : Rd R rest) (hi : 0 ≤ i) (hv : R.vs[(i + (0 : Nat)).toNat]? = some v) (ht : TokAt w rest v kd wo) (hW : Txt.split W (Str.ofString " ") = [W]) (hz : W.length + 2 ≤ sizeLine) :
    Does w mean mg mb 4 161 [.ref R.x, .str W tw] (RL w R rest i ti) (fun r n => ∃ ti', n = RL w R rest (if (kd == Str.ofString "word" && wo == W) = true then i + 1 else i) ti' ∧ r = .bool (kd == Str.ofString "word" && wo == W)) := by
  have hlt := (List.getElem?_eq_some_iff.mp hv).1
  have hsm := H.small
  refine' Does.of [(Str.ofString "self", .ref R.x), (Str.ofString "words", .str W tw)] ?hf ?hcd ?hb ?hl ?c1 ?c2 ?c3 ?c4 ?h
  case hf => exact rfl
  case hcd => exact rfl
  case hb =>
    exact fun s X => BindsTo.of_eq rfl
  case hl => exact locs rfl
  case c1 => exact rfl
  case c2 => exact rfl
  case c3 => exact rfl
  case c4 => decide
  intro dp un gd cn cs a ccd cl outer base L g L' s₁ F X N B T hK hR hU hLt
  revert X; k_fill; intro X
  have i1 := H.inst
  have i2 := H.list
  have i3 := H.ne
  k_with_none
  k_with "call ref" => (k_here; (with_reducible show wpAny _ _ (call (Value.ref 154) _) _ _ _); k_dflt (refine' Mine.Does.use (Mine.is_word_does H ?p2 ?p3 ?p4 ?p5 ?p6) ?k1 ?k2 ?k3 ?k4 ?kS ?k5 ?k6 ?k7 ?k8 ?kA ?_; (case k1 => k_asm); (case k2 => k_asm); (case k3 => k_asm); (case k4 => k_asm); (case kS => repeat' (first | exact Mine.Split.nil | refine' Mine.Split.cons ?_)); (case k5 => k_asm); (case k6 => first | exact rfl | assumption); (case k7 => ktr_room); (case k8 => ktr_units); (case kA => repeat' (first | exact Mine.Apart.nil | refine' Mine.Apart.cons (Mine.off_RL (by first | assumption | exact Ne.symm (by assumption) | exact Nat.ne_of_gt (by assumption) | exact Nat.ne_of_gt (And.left (by assumption))) (by first | exact Mine.off_lt (by assumption) | exact Mine.off_ne (by assumption) | exact Mine.off_lt (Mine.allLt_all (And.right (by assumption))))) ?_)); (case p2 => first | assumption | omega); (case p3 => assumption); (case p4 => assumption); (case p5 => assumption); (case p6 => assumption); k_whole); intro r' n' h' tk' F' N' ap' hr'; (try k_sweep); obtain ⟨e1, e2⟩ := hr'; subst e1; subst e2; (all_goals (try simp only [List.nil_append, List.cons_append] at N')))
  k_with "call builtin:str.split" => (k_here; (with_reducible show wpAny _ _ (call (Value.builtin "str.split") _) _ _ _); k_dflt (refine' Mine.split_one ?k1 ?k2 ?k3 ?k4 ?_ ?k5; (case k1 => k_asm); (case k2 => k_asm); (case k3 => assumption); (case k4 => decide); (case k5 => assumption); k_whole); intro D' t' h' k' F' N' l1; (try k_sweep); (try simp only [List.forall_mem_cons] at l1); (repeat (obtain ⟨la, l1⟩ := l1)))
  k_with "call builtin:len" => (k_here; (with_reducible show wpAny _ _ (call (Value.builtin "len") [Value.ref _]) _ _ _); k_dflt (refine' Mine.len_mem ?k1 ?k2 ?k3 ?_; (case k1 => k_asm); (case k2 => k_mem); (case k3 => omega); k_whole))
  k_steps
  · rename (kd == Str.ofString "word" && wo == W) = true => e
    exact BodyEnd.sub (news' := RL w R rest (i + 1) _) (by k_asm) (by k_asm) (by repeat' (first | exact Mine.Split.nil | refine' Mine.Split.cons ?_)) (skip_t e)
  · rename (kd == Str.ofString "word" && wo == W) = false => e
    exact BodyEnd.sub (news' := RL w R rest i ti) (by k_asm) (by k_asm) (by repeat' (first | exact Mine.Split.nil | refine' Mine.Split.cons ?_)) (skip_f e)
end
end Mine
theorem Mine.kNoneC4 : True := by
  k_with_none
  w_top off
  exact trivial
end C4
section C5
open PySem PySem.W PySem.Calls PyProof.Rows
set_option linter.unusedSimpArgs false
set_option maxRecDepth 100000
set_option maxHeartbeats 8000000
local macro_rules | `(tactic| walk_at $s:str) => `(tactic| k_extra $s)
local macro_rules | `(tactic| k_room) => `(tactic| ktr_room)
local macro_rules | `(tactic| k_mem) => `(tactic| first | assumption | exact List.mem_cons_self | (refine List.mem_cons_of_mem _ ?_; k_mem))
local macro_rules | `(tactic| k_ne) => `(tactic| first | assumption | exact Ne.symm (by assumption) | exact Nat.ne_of_gt (by assumption) | exact Nat.ne_of_lt (by assumption))
local macro_rules | `(tactic| k_all) => `(tactic| first | assumption | exact Mine.all_RL (by first | assumption | exact Nat.ne_of_gt (by assumption)) (by first | exact Mine.off_lt (by assumption) | exact Mine.off_ne (by assumption)))
namespace Mine
section
variable {w : World} {mean : ExcName → Option Value} {mg mb : Str → Option Value} {R : RN} {rest : Led} {ti : Tok} {i : Int} {j : Nat} {tj : Tok} {v : Value}
theorem reserved_does {wo : Str} {tw : Tok} (hz : wo.length ≤ 1000) :
    Does w mean mg mb 1 95 [.str wo tw] [] (fun r n => n = [] ∧ r = .bool (resv wo)) := by
  refine' Does.of [(Str.ofString "word", .str wo tw)] ?hf ?hcd ?hb ?hl ?c1 ?c2 ?c3 ?c4 ?h
  case hf => exact rfl
  case hcd => exact rfl
  case hb =>
    exact fun s X => BindsTo.of_eq rfl
  case hl => exact locs rfl
  case c1 => exact rfl
  case c2 => exact rfl
  case c3 => exact rfl
  case c4 => decide
  intro dp un gd cn cs a ccd cl outer base L g L' s₁ F X N B T hK hR hU hLt
  revert X; k_fill; intro X
  k_with_none
  k_steps
  exact BodyEnd.intro (by k_asm) (by k_asm) ⟨rfl, rfl⟩
end
end Mine
theorem Mine.kNoneC5 : True := by
  k_with_none
  w_top off
  exact trivial
end C5
section C6
open PySem PySem.W PySem.Calls PyProof.Rows
set_option linter.unusedSimpArgs false
set_option maxRecDepth 100000
set_option maxHeartbeats 8000000
local macro_rules | `(tactic| walk_at $s:str) => `(tactic| k_extra $s)
local macro_rules | `(tactic| k_room) => `(tactic| ktr_room)
local macro_rules | `(tactic| k_mem) => `(tactic| first | assumption | exact List.mem_cons_self | (refine List.mem_cons_of_mem _ ?_; k_mem))
local macro_rules | `(tactic| k_ne) => `(tactic| first | assumption | exact Ne.symm (by assumption) | exact Nat.ne_of_gt (by assumption) | exact Nat.ne_of_lt (by assumption))
local macro_rules | `(tactic| k_all) => `(tactic| first | assumption | exact Mine.all_RL (by first | assumption | exact Nat.ne_of_gt (by assumption)) (by first | exact Mine.off_lt (by assumption) | exact Mine.off_ne (by assumption)))
namespace Mine
section
variable {w : World} {mean : ExcName → Option Value} {mg mb : Str → Option Value} {R : RN} {rest : Led} {ti : Tok} {i : Int} {j : Nat} {tj : Tok} {v : Value}
theorem is_name_does {kd wo : Str} (H : Rd R rest) (hi : 0 ≤ i) (hv : R.vs[(i + (0 : Nat)).toNat]? = some v) (ht : TokAt w rest v kd wo) (hz : wo.length ≤ 1000) :
    Does w mean mg mb 3 190 [.ref R.x] (RL w R rest i ti) (fun r n => n = RL w R rest i ti ∧ r = .bool (kd == Str.ofString "word" && !resv wo)) := by
  obtain ⟨t, dt, a, b, c, d, u1, u2, p, q, rfl, q1, q2⟩ := id ht
  refine' Does.of [(Str.ofString "self", .ref R.x), (Str.ofString "ahead", .int 0 408)] ?hf ?hcd ?hb ?hl ?c1 ?c2 ?c3 ?c4 ?h
  case hf => exact rfl
  case hcd => exact rfl
  case hb =>
    exact fun s X => binds_K X rfl rfl rfl rfl rfl
  case hl => exact locs rfl
  case c1 => exact rfl
  case c2 => exact rfl
  case c3 => exact rfl
  case c4 => decide
  intro dp un gd cn cs a ccd cl outer base L g L' s₁ F X N B T hK hR hU hLt
  revert X; k_fill; intro X
  have i1 := H.inst
  have i2 := H.list
  have i3 := H.ne
  k_with_none
  k_with "call ref" => (k_here; (with_reducible show wpAny _ _ (call (Value.ref 118) _) _ _ _); k_dflt (refine' Mine.Does.use (Mine.peek_does _ H ?p2 ?p3 ?p4) ?k1 ?k2 ?k3 ?k4 ?kS ?k5 ?k6 ?k7 ?k8 ?kA ?_; (case k1 => k_asm); (case k2 => k_asm); (case k3 => k_asm); (case k4 => k_asm); (case kS => repeat' (first | exact Mine.Split.nil | refine' Mine.Split.cons ?_)); (case k5 => k_asm); (case k6 => first | exact rfl | assumption); (case k7 => ktr_room); (case k8 => ktr_units); (case kA => repeat' (first | exact Mine.Apart.nil | refine' Mine.Apart.cons (Mine.off_RL (by first | assumption | exact Ne.symm (by assumption) | exact Nat.ne_of_gt (by assumption) | exact Nat.ne_of_gt (And.left (by assumption))) (by first | exact Mine.off_lt (by assumption) | exact Mine.off_ne (by assumption) | exact Mine.off_lt (Mine.allLt_all (And.right (by assumption))))) ?_)); (case p2 => first | assumption | omega); (case p3 => assumption); (case p4 => first | exact .inl rfl | exact .inr ⟨rfl, rfl, rfl⟩); k_whole); intro r' n' h' tk' F' N' ap' hr'; (try k_sweep); obtain ⟨e1, e2⟩ := hr'; subst e1; subst e2; (all_goals (try simp only [List.nil_append, List.cons_append] at N')))
  k_with "call ref" => (k_here; (with_reducible show wpAny _ _ (call (Value.ref 147) _) _ _ _); k_dflt (refine' Mine.Does.use (Mine.is_kind_does _ H ?p2 ?p3 ?p5 ?p4) ?k1 ?k2 ?k3 ?k4 ?kS ?k5 ?k6 ?k7 ?k8 ?kA ?_; (case k1 => k_asm); (case k2 => k_asm); (case k3 => k_asm); (case k4 => k_asm); (case kS => repeat' (first | exact Mine.Split.nil | refine' Mine.Split.cons ?_)); (case k5 => k_asm); (case k6 => first | exact rfl | assumption); (case k7 => ktr_room); (case k8 => ktr_units); (case kA => repeat' (first | exact Mine.Apart.nil | refine' Mine.Apart.cons (Mine.off_RL (by first | assumption | exact Ne.symm (by assumption) | exact Nat.ne_of_gt (by assumption) | exact Nat.ne_of_gt (And.left (by assumption))) (by first | exact Mine.off_lt (by assumption) | exact Mine.off_ne (by assumption) | exact Mine.off_lt (Mine.allLt_all (And.right (by assumption))))) ?_)); (case p2 => first | assumption | omega); (case p3 => assumption); (case p5 => assumption); (case p4 => first | exact .inl rfl | exact .inr ⟨rfl, rfl, rfl⟩); k_whole); intro r' n' h' tk' F' N' ap' hr'; (try k_sweep); obtain ⟨e1, e2⟩ := hr'; subst e1; subst e2; (all_goals (try simp only [List.nil_append, List.cons_append] at N')))
  k_with "call ref" => (k_here; (with_reducible show wpAny _ _ (call (Value.ref 95) _) _ _ _); k_dflt (refine' Mine.Does.use (Mine.reserved_does ?p1) ?k1 ?k2 ?k3 ?k4 ?kS ?k5 ?k6 ?k7 ?k8 ?kA ?_; (case k1 => k_asm); (case k2 => k_asm); (case k3 => k_asm); (case k4 => k_asm); (case kS => exact Mine.Split.whole); (case k5 => k_asm); (case k6 => first | exact rfl | assumption); (case k7 => ktr_room); (case k8 => ktr_units); (case kA => exact Mine.Apart.none); (case p1 => assumption); k_whole); intro r' n' h' tk' F' N' ap' hr'; (try k_sweep); obtain ⟨e1, e2⟩ := hr'; subst e1; subst e2; (all_goals (try simp only [List.nil_append, List.cons_append, List.append_nil] at N')))
  k_steps
  · exact BodyEnd.sub (news' := RL w R rest i ti) (by k_asm) (by k_asm) (by repeat' (first | exact Mine.Split.nil | refine' Mine.Split.cons ?_)) ⟨rfl, congrArg Value.bool (and_l (by assumption))⟩
  · exact BodyEnd.sub (news' := RL w R rest i ti) (by k_asm) (by k_asm) (by repeat' (first | exact Mine.Split.nil | refine' Mine.Split.cons ?_)) ⟨rfl, congrArg Value.bool (and_r (by assumption))⟩
theorem is_name_true {wo : Str} (H : Rd R rest) (hi : 0 ≤ i) (hv : R.vs[(i + (0 : Nat)).toNat]? = some v) (ht : TokAt w rest v (Str.ofString "word") wo) (hz : wo.length ≤ 1000) (hr : resv wo = false) :
    Does w mean mg mb 3 190 [.ref R.x] (RL w R rest i ti) (fun r n => n = RL w R rest i ti ∧ r = .bool true) :=
  (is_name_does H hi hv ht hz).mono fun r n h => ⟨h.1, h.2.trans (by rw [hr, beq_self_eq_true]; rfl)⟩
theorem take_does {kd wo : Str} (H : Rd R rest) (hi : 0 ≤ i) (hv : R.vs[(i + (0 : Nat)).toNat]? = some v) (ht : TokAt w rest v kd wo) :
    Does w mean mg mb 2 139 [.ref R.x] (RL w R rest i ti) (fun r n => ∃ ti', n = RL w R rest (i + 1) ti' ∧ r = v) := by
  obtain ⟨t, dt, a, b, c, d, u1, u2, p, q, rfl, q1, q2⟩ := id ht
  have hlt := (List.getElem?_eq_some_iff.mp hv).1
  have hsm := H.small
  refine' Does.of [(Str.ofString "self", .ref R.x)] ?hf ?hcd ?hb ?hl ?c1 ?c2 ?c3 ?c4 ?h
  case hf => exact rfl
  case hcd => exact rfl
  case hb =>
    exact fun s X => BindsTo.of_eq rfl
  case hl => exact locs rfl
  case c1 => exact rfl
  case c2 => exact rfl
  case c3 => exact rfl
  case c4 => decide
  intro dp un gd cn cs a ccd cl outer base L g L' s₁ F X N B T hK hR hU hLt
  revert X; k_fill; intro X
  have i1 := H.inst
  have i2 := H.list
  have i3 := H.ne
  k_with_none
  k_with "call ref" => (k_here; (with_reducible show wpAny _ _ (call (Value.ref 118) _) _ _ _); k_dflt (refine' Mine.Does.use (Mine.peek_does _ H ?p2 ?p3 ?p4) ?k1 ?k2 ?k3 ?k4 ?kS ?k5 ?k6 ?k7 ?k8 ?kA ?_; (case k1 => k_asm); (case k2 => k_asm); (case k3 => k_asm); (case k4 => k_asm); (case kS => repeat' (first | exact Mine.Split.nil | refine' Mine.Split.cons ?_)); (case k5 => k_asm); (case k6 => first | exact rfl | assumption); (case k7 => ktr_room); (case k8 => ktr_units); (case kA => repeat' (first | exact Mine.Apart.nil | refine' Mine.Apart.cons (Mine.off_RL (by first | assumption | exact Ne.symm (by assumption) | exact Nat.ne_of_gt (by assumption) | exact Nat.ne_of_gt (And.left (by assumption))) (by first | exact Mine.off_lt (by assumption) | exact Mine.off_ne (by assumption) | exact Mine.off_lt (Mine.allLt_all (And.right (by assumption))))) ?_)); (case p2 => first | assumption | omega); (case p3 => assumption); (case p4 => first | exact .inl rfl | exact .inr ⟨rfl, rfl, rfl⟩); k_whole); intro r' n' h' tk' F' N' ap' hr'; (try k_sweep); obtain ⟨e1, e2⟩ := hr'; subst e1; subst e2; (all_goals (try simp only [List.nil_append, List.cons_append] at N')))
  k_steps
  exact BodyEnd.sub (news' := RL w R rest (i + 1) _) (by k_asm) (by k_asm) (by repeat' (first | exact Mine.Split.nil | refine' Mine.Split.cons ?_)) ⟨_, rfl, rfl⟩
theorem skip_true {W : Str} {tw : Tok} (H : Rd R rest) (hi : 0 ≤ i) (hv : R.vs[(i + (0 : Nat)).toNat]? = some v) (ht : TokAt w rest v (Str.ofString "word") W) (hW : Txt.split W (Str.ofString " ") = [W]) (hz : W.length + 2 ≤ sizeLine) :
    Does w mean mg mb 4 161 [.ref R.x, .str W tw] (RL w R rest i ti) (fun r n => ∃ ti', n = RL w R rest (i + 1) ti' ∧ r = .bool true) :=
  (skip_does H hi hv ht hW hz).mono fun r n h => by
    rw [beq_self_eq_true, beq_self_eq_true] at h
    exact h
end
end Mine
theorem Mine.kNoneC6 : True := by
  k_with_none
  w_top off
  exact trivial
end C6
section C7
open PySem PySem.W PySem.Calls PyProof.Rows
set_option linter.unusedSimpArgs false
set_option maxRecDepth 100000
set_option maxHeartbeats 8000000
local macro_rules | `(tactic| walk_at $s:str) => `(tactic| k_extra $s)
local macro_rules | `(tactic| k_room) => `(tactic| ktr_room)
local macro_rules | `(tactic| k_mem) => `(tactic| first | assumption | exact List.mem_cons_self | (refine List.mem_cons_of_mem _ ?_; k_mem))
local macro_rules | `(tactic| k_ne) => `(tactic| first | assumption | exact Ne.symm (by assumption) | exact Nat.ne_of_gt (by assumption) | exact Nat.ne_of_lt (by assumption))
local macro_rules | `(tactic| k_all) => `(tactic| first | assumption | exact Mine.all_RL (by first | assumption | exact Nat.ne_of_gt (by assumption)) (by first | exact Mine.off_lt (by assumption) | exact Mine.off_ne (by assumption)))
namespace Mine
section
variable {w : World} {mean : ExcName → Option Value} {mg mb : Str → Option Value} {R : RN} {rest : Led} {ti : Tok} {i : Int} {j : Nat} {tj : Tok} {v : Value}
theorem name_does {wo : Str} (H : Rd R rest) (hi : 0 ≤ i) (hv : R.vs[(i + (0 : Nat)).toNat]? = some v) (ht : TokAt w rest v (Str.ofString "word") wo) (hz : wo.length ≤ 1000) (hr : resv wo = false) :
    Does w mean mg mb 4 197 [.ref R.x] (RL w R rest i ti) (fun r n => ∃ ti' u, n = RL w R rest (i + 1) ti' ∧ r = .str wo u) := by
  obtain ⟨t, dt, a, b, c, d, u1, u2, p, q, rfl, q1, q2⟩ := id ht
  refine' Does.of [(Str.ofString "self", .ref R.x)] ?hf ?hcd ?hb ?hl ?c1 ?c2 ?c3 ?c4 ?h
  case hf => exact rfl
  case hcd => exact rfl
  case hb =>
    exact fun s X => BindsTo.of_eq rfl
  case hl => exact locs rfl
  case c1 => exact rfl
  case c2 => exact rfl
  case c3 => exact rfl
  case c4 => decide
  intro dp un gd cn cs a ccd cl outer base L g L' s₁ F X N B T hK hR hU hLt
  revert X; k_fill; intro X
  have i1 := H.inst
  have i2 := H.list
  have i3 := H.ne
  k_with_none
  k_with "call ref" => (k_here; (with_reducible show wpAny _ _ (call (Value.ref 190) _) _ _ _); k_dflt (refine' Mine.Does.use (Mine.is_name_true H ?p2 ?p3 ?p4 ?p5 ?p6) ?k1 ?k2 ?k3 ?k4 ?kS ?k5 ?k6 ?k7 ?k8 ?kA ?_; (case k1 => k_asm); (case k2 => k_asm); (case k3 => k_asm); (case k4 => k_asm); (case kS => repeat' (first | exact Mine.Split.nil | refine' Mine.Split.cons ?_)); (case k5 => k_asm); (case k6 => first | exact rfl | assumption); (case k7 => ktr_room); (case k8 => ktr_units); (case kA => repeat' (first | exact Mine.Apart.nil | refine' Mine.Apart.cons (Mine.off_RL (by first | assumption | exact Ne.symm (by assumption) | exact Nat.ne_of_gt (by assumption) | exact Nat.ne_of_gt (And.left (by assumption))) (by first | exact Mine.off_lt (by assumption) | exact Mine.off_ne (by assumption) | exact Mine.off_lt (Mine.allLt_all (And.right (by assumption))))) ?_)); (case p2 => first | assumption | omega); (case p3 => assumption); (case p4 => assumption); (case p5 => assumption); (case p6 => assumption); k_whole); intro r' n' h' tk' F' N' ap' hr'; (try k_sweep); obtain ⟨e1, e2⟩ := hr'; subst e1; subst e2; (all_goals (try simp only [List.nil_append, List.cons_append] at N')))
  k_with "call ref" => (k_here; (with_reducible show wpAny _ _ (call (Value.ref 139) _) _ _ _); k_dflt (refine' Mine.Does.use (Mine.take_does H ?p2 ?p3 ?p4) ?k1 ?k2 ?k3 ?k4 ?kS ?k5 ?k6 ?k7 ?k8 ?kA ?_; (case k1 => k_asm); (case k2 => k_asm); (case k3 => k_asm); (case k4 => k_asm); (case kS => repeat' (first | exact Mine.Split.nil | refine' Mine.Split.cons ?_)); (case k5 => k_asm); (case k6 => first | exact rfl | assumption); (case k7 => ktr_room); (case k8 => ktr_units); (case kA => repeat' (first | exact Mine.Apart.nil | refine' Mine.Apart.cons (Mine.off_RL (by first | assumption | exact Ne.symm (by assumption) | exact Nat.ne_of_gt (by assumption) | exact Nat.ne_of_gt (And.left (by assumption))) (by first | exact Mine.off_lt (by assumption) | exact Mine.off_ne (by assumption) | exact Mine.off_lt (Mine.allLt_all (And.right (by assumption))))) ?_)); (case p2 => first | assumption | omega); (case p3 => assumption); (case p4 => assumption); k_whole); intro r' n' h' tk' F' N' ap' hr'; (try k_sweep); obtain ⟨ti', e1, e2⟩ := hr'; subst e1; subst e2; (all_goals (try simp only [List.nil_append, List.cons_append] at N')))
  k_steps
  exact BodyEnd.sub (news' := RL w R rest (i + 1) _) (by k_asm) (by k_asm) (by repeat' (first | exact Mine.Split.nil | refine' Mine.Split.cons ?_)) ⟨_, _, rfl, rfl⟩
theorem need_does {W : Str} {tw : Tok} (H : Rd R rest) (hi : 0 ≤ i) (hv : R.vs[(i + (0 : Nat)).toNat]? = some v) (ht : TokAt w rest v (Str.ofString "word") W) (hW : Txt.split W (Str.ofString " ") = [W]) (hz : W.length + 2 ≤ sizeLine) :
    Does w mean mg mb 5 168 [.ref R.x, .str W tw] (RL w R rest i ti) (fun r n => ∃ ti', n = RL w R rest (i + 1) ti' ∧ r = .none) := by
  refine' Does.of [(Str.ofString "self", .ref R.x), (Str.ofString "words", .str W tw)] ?hf ?hcd ?hb ?hl ?c1 ?c2 ?c3 ?c4 ?h
  case hf => exact rfl
  case hcd => exact rfl
  case hb =>
    exact fun s X => BindsTo.of_eq rfl
  case hl => exact locs rfl
  case c1 => exact rfl
  case c2 => exact rfl
  case c3 => exact rfl
  case c4 => decide
  intro dp un gd cn cs a ccd cl outer base L g L' s₁ F X N B T hK hR hU hLt
  revert X; k_fill; intro X
  have i1 := H.inst
  have i2 := H.list
  have i3 := H.ne
  k_with_none
  k_with "call ref" => (k_here; (with_reducible show wpAny _ _ (call (Value.ref 161) _) _ _ _); k_dflt (refine' Mine.Does.use (Mine.skip_true H ?p2 ?p3 ?p4 ?p5 ?p6) ?k1 ?k2 ?k3 ?k4 ?kS ?k5 ?k6 ?k7 ?k8 ?kA ?_; (case k1 => k_asm); (case k2 => k_asm); (case k3 => k_asm); (case k4 => k_asm); (case kS => repeat' (first | exact Mine.Split.nil | refine' Mine.Split.cons ?_)); (case k5 => k_asm); (case k6 => first | exact rfl | assumption); (case k7 => ktr_room); (case k8 => ktr_units); (case kA => repeat' (first | exact Mine.Apart.nil | refine' Mine.Apart.cons (Mine.off_RL (by first | assumption | exact Ne.symm (by assumption) | exact Nat.ne_of_gt (by assumption) | exact Nat.ne_of_gt (And.left (by assumption))) (by first | exact Mine.off_lt (by assumption) | exact Mine.off_ne (by assumption) | exact Mine.off_lt (Mine.allLt_all (And.right (by assumption))))) ?_)); (case p2 => first | assumption | omega); (case p3 => assumption); (case p4 => assumption); (case p5 => assumption); (case p6 => assumption); k_whole); intro r' n' h' tk' F' N' ap' hr'; (try k_sweep); obtain ⟨ti', e1, e2⟩ := hr'; subst e1; subst e2; (all_goals (try simp only [List.nil_append, List.cons_append] at N')))
  k_steps
  exact BodyEnd.subN (news' := RL w R rest (i + 1) _) (by k_asm) (by k_asm) (by repeat' (first | exact Mine.Split.nil | refine' Mine.Split.cons ?_)) ⟨_, rfl, rfl⟩
end
end Mine
theorem Mine.kNoneC7 : True := by
  k_with_none
  w_top off
  exact trivial
end C7
section C8
open PySem PySem.W PySem.Calls PyProof.Rows
set_option linter.unusedSimpArgs false
set_option maxRecDepth 100000
set_option maxHeartbeats 8000000
local macro_rules | `(tactic| walk_at $s:str) => `(tactic| k_extra $s)
local macro_rules | `(tactic| k_room) => `(tactic| ktr_room)
local macro_rules | `(tactic| k_mem) => `(tactic| first | assumption | exact List.mem_cons_self | (refine List.mem_cons_of_mem _ ?_; k_mem))
local macro_rules | `(tactic| k_ne) => `(tactic| first | assumption | exact Ne.symm (by assumption) | exact Nat.ne_of_gt (by assumption) | exact Nat.ne_of_lt (by assumption))
local macro_rules | `(tactic| k_all) => `(tactic| first | assumption | exact Mine.all_RL (by first | assumption | exact Nat.ne_of_gt (by assumption)) (by first | exact Mine.off_lt (by assumption) | exact Mine.off_ne (by assumption)))
namespace Mine
section
variable {w : World} {mean : ExcName → Option Value} {mg mb : Str → Option Value} {R : RN} {rest : Led} {ti : Tok} {i : Int} {j : Nat} {tj : Tok} {v : Value}
theorem is_name_val {kd wo : Str} {b : Bool} (H : Rd R rest) (hi : 0 ≤ i) (hv : R.vs[(i + (0 : Nat)).toNat]? = some v) (ht : TokAt w rest v kd wo) (hz : wo.length ≤ 1000) (hb : (kd == Str.ofString "word" && !resv wo) = b) :
    Does w mean mg mb 3 190 [.ref R.x] (RL w R rest i ti) (fun r n => n = RL w R rest i ti ∧ r = .bool b) :=
  (is_name_does H hi hv ht hz).mono fun r n h => ⟨h.1, h.2.trans (by rw [hb])⟩
theorem names_does {TT : List (Str × Str)} {ns : List Str} (H : Rd R rest) (HT : Toks w R rest TT) (hi : 0 ≤ i) (hne : 1 ≤ ns.length)
    (hn : ∀ (k : Nat) wo, ns[k]? = some wo → TT[(i + k).toNat]? = some (Str.ofString "word", wo) ∧ resv wo = false ∧ wo.length ≤ 1000)
    (he : ∃ kd wo, TT[(i + ns.length).toNat]? = some (kd, wo) ∧ (kd == Str.ofString "word" && !resv wo) = false ∧ wo.length ≤ 1000) :
    Does w mean mg mb 6 204 [.ref R.x] (RL w R rest i ti) (fun r n => ∃ l vals nv ti', r = .ref l ∧ StrsAre vals ns ∧ n = (l, listOf vals.toArray nv) :: RL w R rest (i + ns.length) ti' ∧ l ≠ R.dx ∧ ∀ q ∈ rest, l ≠ q.1) := by
  obtain ⟨wo, hw⟩ : ∃ wo, ns[0]? = some wo := ⟨_, List.getElem?_eq_getElem (by omega)⟩
  obtain ⟨h1, hr, hz⟩ := hn 0 wo hw
  rw [Int.natCast_zero, Int.add_zero] at h1
  obtain ⟨v, hv, ht⟩ := HT.at h1
  refine' Does.of [(Str.ofString "self", .ref R.x)] ?hf ?hcd ?hb ?hl ?c1 ?c2 ?c3 ?c4 ?h
  case hf => exact rfl
  case hcd => exact rfl
  case hb =>
    exact fun s X => BindsTo.of_eq rfl
  case hl => exact locs rfl
  case c1 => exact rfl
  case c2 => exact rfl
  case c3 => exact rfl
  case c4 => decide
  intro dp un gd cn cs a ccd cl outer base L g L' s₁ F X N B T hK hR hU hLt
  revert X; k_fill; intro X
  have i1 := H.inst
  have i2 := H.list
  have i3 := H.ne
  k_with_none
  k_with "call ref" => (k_here; (with_reducible show wpAny _ _ (call (Value.ref 197) _) _ _ _); k_dflt (refine' Mine.Does.use (Mine.name_does H ?p2 ?p3 ?p4 ?p5 ?p6) ?k1 ?k2 ?k3 ?k4 ?kS ?k5 ?k6 ?k7 ?k8 ?kA ?_; (case k1 => k_asm); (case k2 => k_asm); (case k3 => k_asm); (case k4 => k_asm); (case kS => repeat' (first | exact Mine.Split.nil | refine' Mine.Split.cons ?_)); (case k5 => k_asm); (case k6 => first | exact rfl | assumption); (case k7 => ktr_room); (case k8 => ktr_units); (case kA => repeat' (first | exact Mine.Apart.nil | refine' Mine.Apart.cons (Mine.off_RL (by first | assumption | exact Ne.symm (by assumption) | exact Nat.ne_of_gt (by assumption) | exact Nat.ne_of_gt (And.left (by assumption))) (by first | exact Mine.off_lt (by assumption) | exact Mine.off_ne (by assumption) | exact Mine.off_lt (Mine.allLt_all (And.right (by assumption))))) ?_)); (case p2 => first | assumption | omega); (case p3 => assumption); (case p4 => assumption); (case p5 => assumption); (case p6 => assumption); k_whole); intro r' n' h' tk' F' N' ap' hr'; (try k_sweep); obtain ⟨ti', u', e1, e2⟩ := hr'; subst e1; subst e2; (all_goals (try simp only [List.nil_append, List.cons_append] at N')))
  k_with "exec While Call cons nil" => (refine Mine.Hold.out ?_)
  k_steps
  rename_i l hq l1 hh F1 N1
  unfold Hold
  obtain ⟨l2, l3⟩ := l1
  replace l3 := allLt_all l3
  refine While_inv (fun n m₁ news₁ => m₁ = (fun y => if y = Str.ofString "found" then some (Value.ref l) else [(Str.ofString "self", Value.ref R.x)].reverse.lookup y) ∧ ∃ k vals nv t, k + n = ns.length ∧ 1 ≤ k ∧ StrsAre vals (ns.take k) ∧ news₁ = (l, listOf vals.toArray nv) :: RL w R rest (i + (k : Nat)) t) (n₀ := ns.length - 1) F1 N1 ⟨rfl, 1, [.str wo u'], 0, ti', by omega, Nat.le_refl _, ?s, rfl⟩ ?turn
  case s => exact take1 (k := 0) u' .nil hw
  clear F1 N1
  rintro n m₁ news₁ h₁ tk₁ F2 N2 ⟨rfl, k, vals, nv, t, hk, hk1, hs, rfl⟩
  by_cases hlt : k < ns.length
  · obtain ⟨wk, hwk⟩ : ∃ wk, ns[k]? = some wk := ⟨_, List.getElem?_eq_getElem hlt⟩
    obtain ⟨g1, g2, g3⟩ := hn k wk hwk
    obtain ⟨v2, gv, gt⟩ := HT.at g1
    have hb : (Str.ofString "word" == Str.ofString "word" && !resv wk) = true := by rw [g2, beq_self_eq_true]; rfl
    have hi2 : 0 ≤ i + (k : Nat) := by omega
    have hvl : vals.length ≤ 1000 := by
      have e1 := strs_len hs
      have e2 := (List.getElem?_eq_some_iff.mp gv).1
      have e3 := H.small
      rw [List.length_take] at e1
      omega
    k_with "call ref" => (k_here; (with_reducible show wpAny _ _ (call (Value.ref 190) _) _ _ _); k_dflt (refine' Mine.Does.use (Mine.is_name_val H ?p2 ?p3 ?p4 ?p5 ?p6) ?k1 ?k2 ?k3 ?k4 ?kS ?k5 ?k6 ?k7 ?k8 ?kA ?_; (case k1 => k_asm); (case k2 => k_asm); (case k3 => k_asm); (case k4 => k_asm); (case kS => repeat' (first | exact Mine.Split.nil | refine' Mine.Split.cons ?_)); (case k5 => k_asm); (case k6 => first | exact rfl | assumption); (case k7 => ktr_room); (case k8 => ktr_units); (case kA => repeat' (first | exact Mine.Apart.nil | refine' Mine.Apart.cons (Mine.off_RL (by first | assumption | exact Ne.symm (by assumption) | exact Nat.ne_of_gt (by assumption) | exact Nat.ne_of_gt (And.left (by assumption))) (by first | exact Mine.off_lt (by assumption) | exact Mine.off_ne (by assumption) | exact Mine.off_lt (Mine.allLt_all (And.right (by assumption))))) ?_)); (case p2 => first | assumption | omega); (case p3 => assumption); (case p4 => assumption); (case p5 => assumption); (case p6 => assumption); k_whole); intro r' n' h' tk' F' N' ap' hr'; (try k_sweep); obtain ⟨e1, e2⟩ := hr'; subst e1; subst e2; (all_goals (try simp only [List.nil_append, List.cons_append] at N')))
    k_with "call builtin:list.append" => (k_here; (with_reducible show wpAny _ _ (call (Value.builtin _) [Value.ref _, _]) _ _ _); k_dflt (refine' Mine.append_up ?k1 ?k2 ?k3 ?k4 ?_; (case k1 => k_asm); (case k2 => k_asm); (case k3 => k_upd); (case k4 => assumption); k_whole); intro h' F' N'; (try k_sweep))
    k_steps
    exact WhileStep.intro (by k_asm) (by k_asm) (n' := n - 1) (by omega) ⟨rfl, k + 1, _, _, _, by omega, by omega, take1 _ hs hwk, led1⟩
  · obtain rfl : k = ns.length := by omega
    obtain ⟨kd, wk, g1, hb, g3⟩ := he
    obtain ⟨v2, gv, gt⟩ := HT.at g1
    have hi2 : 0 ≤ i + (ns.length : Nat) := by omega
    rw [List.take_length] at hs
    k_with "call ref" => (k_here; (with_reducible show wpAny _ _ (call (Value.ref 190) _) _ _ _); k_dflt (refine' Mine.Does.use (Mine.is_name_val H ?p2 ?p3 ?p4 ?p5 ?p6) ?k1 ?k2 ?k3 ?k4 ?kS ?k5 ?k6 ?k7 ?k8 ?kA ?_; (case k1 => k_asm); (case k2 => k_asm); (case k3 => k_asm); (case k4 => k_asm); (case kS => repeat' (first | exact Mine.Split.nil | refine' Mine.Split.cons ?_)); (case k5 => k_asm); (case k6 => first | exact rfl | assumption); (case k7 => ktr_room); (case k8 => ktr_units); (case kA => repeat' (first | exact Mine.Apart.nil | refine' Mine.Apart.cons (Mine.off_RL (by first | assumption | exact Ne.symm (by assumption) | exact Nat.ne_of_gt (by assumption) | exact Nat.ne_of_gt (And.left (by assumption))) (by first | exact Mine.off_lt (by assumption) | exact Mine.off_ne (by assumption) | exact Mine.off_lt (Mine.allLt_all (And.right (by assumption))))) ?_)); (case p2 => first | assumption | omega); (case p3 => assumption); (case p4 => assumption); (case p5 => assumption); (case p6 => assumption); k_whole); intro r' n' h' tk' F' N' ap' hr'; (try k_sweep); obtain ⟨e1, e2⟩ := hr'; subst e1; subst e2; (all_goals (try simp only [List.nil_append, List.cons_append] at N')))
    k_steps
    exact BodyEnd.intro (by k_asm) (by k_asm) ⟨l, vals, nv, t, rfl, hs, rfl, Nat.ne_of_gt l2, off_lt l3⟩
end
end Mine
theorem Mine.kNoneC8 : True := by
  k_with_none
  w_top off
  exact trivial
end C8
section C9
open PySem PySem.W PySem.Calls PyProof.Rows
set_option linter.unusedSimpArgs false
set_option maxRecDepth 100000
set_option maxHeartbeats 8000000
local macro_rules | `(tactic| walk_at $s:str) => `(tactic| k_extra $s)
local macro_rules | `(tactic| k_room) => `(tactic| ktr_room)
local macro_rules | `(tactic| k_mem) => `(tactic| first | assumption | exact List.mem_cons_self | (refine List.mem_cons_of_mem _ ?_; k_mem))
local macro_rules | `(tactic| k_ne) => `(tactic| first | assumption | exact Ne.symm (by assumption) | exact Nat.ne_of_gt (by assumption) | exact Nat.ne_of_lt (by assumption))
local macro_rules | `(tactic| k_all) => `(tactic| first | assumption | exact Mine.all_RL (by first | assumption | exact Nat.ne_of_gt (by assumption)) (by first | exact Mine.off_lt (by assumption) | exact Mine.off_ne (by assumption)))
namespace Mine
section
variable {w : World} {mean : ExcName → Option Value} {mg mb : Str → Option Value} {R : RN} {rest : Led} {ti : Tok} {i : Int} {j : Nat} {tj : Tok} {v : Value}
theorem skip_two {kd wo W : Str} {tw : Tok} (H : Rd R rest) (hi : 0 ≤ i) (hv : R.vs[(i + (0 : Nat)).toNat]? = some v) (ht : TokAt w rest v kd wo) (hW : Txt.split W (Str.ofString " ") = [W]) (hz : W.length + 2 ≤ sizeLine) :
    Does w mean mg mb 4 161 [.ref R.x, .str W tw] (RL w R rest i ti) (fun r n => (∃ ti', (kd == Str.ofString "word" && wo == W) = true ∧ n = RL w R rest (i + 1) ti' ∧ r = .bool true) ∨ ∃ ti', (kd == Str.ofString "word" && wo == W) = false ∧ n = RL w R rest i ti' ∧ r = .bool false) :=
  (skip_does H hi hv ht hW hz).mono fun r n h => by
    obtain ⟨ti', e1, e2⟩ := h
    cases hb : (kd == Str.ofString "word" && wo == W) with
    | true => rw [hb] at e1 e2; exact .inl ⟨ti', rfl, e1, e2⟩
    | false => rw [hb] at e1 e2; exact .inr ⟨ti', rfl, e1, e2⟩
noncomputable def word4 (k : Nat) : Str := match k with | 0 => Str.ofString "INPUT" | 1 => Str.ofString "OUTPUT" | 2 => Str.ofString "I-O" | _ => Str.ofString "EXTEND"
noncomputable def mode4 (k : Nat) : Str := match k with | 0 => Str.ofString "input" | 1 => Str.ofString "output" | 2 => Str.ofString "i-o" | _ => Str.ofString "extend"
/-- what mode_here says of the token ahead -/
noncomputable def Here (w : World) (R : RN) (rest : Led) (i : Int) (kd wo : Str) (r : Value) (n : Led) : Prop :=
  (∃ k ti' u, k < 4 ∧ (kd == Str.ofString "word" && wo == word4 k) = true ∧ n = RL w R rest (i + 1) ti' ∧ r = .str (mode4 k) u) ∨
  ∃ ti' u, (∀ k, k < 4 → (kd == Str.ofString "word" && wo == word4 k) = false) ∧ n = RL w R rest i ti' ∧ r = .str (Str.ofString "") u
theorem mode_here_does {kd wo : Str} (H : Rd R rest) (hi : 0 ≤ i) (hv : R.vs[(i + (0 : Nat)).toNat]? = some v) (ht : TokAt w rest v kd wo) :
    Does w mean mg mb 5 33 [.ref R.x] (RL w R rest i ti) (Here w R rest i kd wo) := by
  have a1 : Txt.split (Str.ofString "INPUT") (Str.ofString " ") = [Str.ofString "INPUT"] := by decide +kernel
  have a2 : Txt.split (Str.ofString "OUTPUT") (Str.ofString " ") = [Str.ofString "OUTPUT"] := by decide +kernel
  have a3 : Txt.split (Str.ofString "I-O") (Str.ofString " ") = [Str.ofString "I-O"] := by decide +kernel
  have a4 : Txt.split (Str.ofString "EXTEND") (Str.ofString " ") = [Str.ofString "EXTEND"] := by decide +kernel
  have b1 : (Str.ofString "INPUT").length + 2 ≤ sizeLine := by decide +kernel
  have b2 : (Str.ofString "OUTPUT").length + 2 ≤ sizeLine := by decide +kernel
  have b3 : (Str.ofString "I-O").length + 2 ≤ sizeLine := by decide +kernel
  have b4 : (Str.ofString "EXTEND").length + 2 ≤ sizeLine := by decide +kernel
  refine' Does.of [(Str.ofString "reader", .ref R.x)] ?hf ?hcd ?hb ?hl ?c1 ?c2 ?c3 ?c4 ?h
  case hf => exact rfl
  case hcd => exact rfl
  case hb =>
    exact fun s X => BindsTo.of_eq rfl
  case hl => exact locs rfl
  case c1 => exact rfl
  case c2 => exact rfl
  case c3 => exact rfl
  case c4 => decide
  intro dp un gd cn cs a ccd cl outer base L g L' s₁ F X N B T hK hR hU hLt
  revert X; k_fill; intro X
  have i1 := H.inst
  have i2 := H.list
  have i3 := H.ne
  k_with_none
  k_with "call ref" => (k_here; (with_reducible show wpAny _ _ (call (Value.ref 161) _) _ _ _); k_dflt (refine' Mine.Does.use (Mine.skip_two H ?p2 ?p3 ?p4 ?p5 ?p6) ?k1 ?k2 ?k3 ?k4 ?kS ?k5 ?k6 ?k7 ?k8 ?kA ?_; (case k1 => k_asm); (case k2 => k_asm); (case k3 => k_asm); (case k4 => k_asm); (case kS => repeat' (first | exact Mine.Split.nil | refine' Mine.Split.cons ?_)); (case k5 => k_asm); (case k6 => first | exact rfl | assumption); (case k7 => ktr_room); (case k8 => ktr_units); (case kA => repeat' (first | exact Mine.Apart.nil | refine' Mine.Apart.cons (Mine.off_RL (by first | assumption | exact Ne.symm (by assumption) | exact Nat.ne_of_gt (by assumption) | exact Nat.ne_of_gt (And.left (by assumption))) (by first | exact Mine.off_lt (by assumption) | exact Mine.off_ne (by assumption) | exact Mine.off_lt (Mine.allLt_all (And.right (by assumption))))) ?_)); (case p2 => first | assumption | omega); (case p3 => assumption); (case p4 => assumption); (case p5 => assumption); (case p6 => assumption); k_whole); intro r' n' h' tk' F' N' ap' hr'; (try k_sweep); rcases hr' with ⟨ti', hb, e1, e2⟩ | ⟨ti', hb, e1, e2⟩ <;> subst e1 <;> subst e2; (all_goals (try simp only [List.nil_append, List.cons_append] at N')))
  k_with "UnrEndW" => (k_dflt (refine Mine.endW (by k_asm) (by k_asm) (Mine.all_RL (by first | assumption | exact Ne.symm (by assumption) | exact Nat.ne_of_gt (by assumption) | exact Nat.ne_of_gt (And.left (by assumption))) (by first | exact Mine.off_lt (by assumption) | exact Mine.off_ne (by assumption) | exact Mine.off_lt (Mine.allLt_all (And.right (by assumption))))) ⟨trivial, ?_⟩))
  k_steps
  · exact BodyEnd.sub (news' := RL w R rest (i + 1) _) (by k_asm) (by k_asm) (by repeat' (first | exact Mine.Split.nil | refine' Mine.Split.cons ?_)) (.inl ⟨0, _, _, by decide, by assumption, rfl, rfl⟩)
  · exact BodyEnd.sub (news' := RL w R rest (i + 1) _) (by k_asm) (by k_asm) (by repeat' (first | exact Mine.Split.nil | refine' Mine.Split.cons ?_)) (.inl ⟨1, _, _, by decide, by assumption, rfl, rfl⟩)
  · exact BodyEnd.sub (news' := RL w R rest (i + 1) _) (by k_asm) (by k_asm) (by repeat' (first | exact Mine.Split.nil | refine' Mine.Split.cons ?_)) (.inl ⟨2, _, _, by decide, by assumption, rfl, rfl⟩)
  · exact BodyEnd.sub (news' := RL w R rest (i + 1) _) (by k_asm) (by k_asm) (by repeat' (first | exact Mine.Split.nil | refine' Mine.Split.cons ?_)) (.inl ⟨3, _, _, by decide, by assumption, rfl, rfl⟩)
  · exact BodyEnd.sub (news' := RL w R rest i _) (by k_asm) (by k_asm) (by repeat' (first | exact Mine.Split.nil | refine' Mine.Split.cons ?_)) (.inr ⟨_, _, by (intro k hk; rcases k with _ | _ | _ | _ | k <;> first | assumption | omega), rfl, rfl⟩)
end
end Mine
theorem Mine.kNoneC9 : True := by
  k_with_none
  w_top off
  exact trivial
end C9
section C10
open PySem PySem.W PySem.Calls PyProof.Rows
set_option linter.unusedSimpArgs false
set_option maxRecDepth 100000
set_option maxHeartbeats 8000000
local macro_rules | `(tactic| walk_at $s:str) => `(tactic| k_extra $s)
local macro_rules | `(tactic| k_room) => `(tactic| ktr_room)
local macro_rules | `(tactic| k_mem) => `(tactic| first | assumption | exact List.mem_cons_self | (refine List.mem_cons_of_mem _ ?_; k_mem))
local macro_rules | `(tactic| k_ne) => `(tactic| first | assumption | exact Ne.symm (by assumption) | exact Nat.ne_of_gt (by assumption) | exact Nat.ne_of_lt (by assumption))
local macro_rules | `(tactic| k_all) => `(tactic| first | assumption | exact Mine.all_RL (by first | assumption | exact Nat.ne_of_gt (by assumption)) (by first | exact Mine.off_lt (by assumption) | exact Mine.off_ne (by assumption)))
namespace Mine
section
variable {w : World} {mean : ExcName → Option Value} {mg mb : Str → Option Value} {R : RN} {rest : Led} {ti : Tok} {i : Int} {j : Nat} {tj : Tok} {v : Value}
theorem read_close_does {TT : List (Str × Str)} {ns : List Str} (H : Rd R rest) (HT : Toks w R rest TT) (hi : 0 ≤ i) (hne : 1 ≤ ns.length) (h0 : TT[i.toNat]? = some (Str.ofString "word", Str.ofString "CLOSE"))
    (hn : ∀ (k : Nat) wo, ns[k]? = some wo → TT[(i + 1 + k).toNat]? = some (Str.ofString "word", wo) ∧ resv wo = false ∧ wo.length ≤ 1000)
    (he : ∃ kd wo, TT[(i + 1 + ns.length).toNat]? = some (kd, wo) ∧ (kd == Str.ofString "word" && !resv wo) = false ∧ wo.length ≤ 1000) :
    Does w mean mg mb 7 47 [.ref R.x, .none] (RL w R rest i ti) (fun r n => ∃ t t2 u vals ti', r = .ref t ∧ StrsAre vals ns ∧ n = (t, tupO [.str (Str.ofString "close") u, .ref t2]) :: (t2, tupO vals) :: RL w R rest (i + 1 + ns.length) ti') := by
  obtain ⟨v, hv, ht⟩ := HT.at h0
  have hi1 : 0 ≤ i + 1 := by omega
  have hns : ns.length ≤ 1000 := by
    obtain ⟨kd, wo, g1, _⟩ := he
    obtain ⟨v2, gv, _⟩ := HT.at g1
    have e2 := (List.getElem?_eq_some_iff.mp gv).1
    have e3 := H.small
    omega
  have a1 : Txt.split (Str.ofString "CLOSE") (Str.ofString " ") = [Str.ofString "CLOSE"] := by decide +kernel
  have b1 : (Str.ofString "CLOSE").length + 2 ≤ sizeLine := by decide +kernel
  refine' Does.of [(Str.ofString "reader", .ref R.x), (Str.ofString "read_body", .none)] ?hf ?hcd ?hb ?hl ?c1 ?c2 ?c3 ?c4 ?h
  case hf => exact rfl
  case hcd => exact rfl
  case hb =>
    exact fun s X => BindsTo.of_eq rfl
  case hl => exact locs rfl
  case c1 => exact rfl
  case c2 => exact rfl
  case c3 => exact rfl
  case c4 => decide
  intro dp un gd cn cs a ccd cl outer base L g L' s₁ F X N B T hK hR hU hLt
  revert X; k_fill; intro X
  have i1 := H.inst
  have i2 := H.list
  have i3 := H.ne
  k_with_none
  k_with "call ref" => (k_here; (with_reducible show wpAny _ _ (call (Value.ref 168) _) _ _ _); k_dflt (refine' Mine.Does.use (Mine.need_does H ?p2 ?p3 ?p4 ?p5 ?p6) ?k1 ?k2 ?k3 ?k4 ?kS ?k5 ?k6 ?k7 ?k8 ?kA ?_; (case k1 => k_asm); (case k2 => k_asm); (case k3 => k_asm); (case k4 => k_asm); (case kS => repeat' (first | exact Mine.Split.nil | refine' Mine.Split.cons ?_)); (case k5 => k_asm); (case k6 => first | exact rfl | assumption); (case k7 => ktr_room); (case k8 => ktr_units); (case kA => repeat' (first | exact Mine.Apart.nil | refine' Mine.Apart.cons (Mine.off_RL (by first | assumption | exact Ne.symm (by assumption) | exact Nat.ne_of_gt (by assumption) | exact Nat.ne_of_gt (And.left (by assumption))) (by first | exact Mine.off_lt (by assumption) | exact Mine.off_ne (by assumption) | exact Mine.off_lt (Mine.allLt_all (And.right (by assumption))))) ?_)); (case p2 => first | assumption | omega); (case p3 => assumption); (case p4 => assumption); (case p5 => assumption); (case p6 => assumption); k_whole); intro r' n' h' tk' F' N' ap' hr'; (try k_sweep); obtain ⟨ti', e1, e2⟩ := hr'; subst e1; subst e2; (all_goals (try simp only [List.nil_append, List.cons_append] at N')))
  k_with "call ref" => (k_here; (with_reducible show wpAny _ _ (call (Value.ref 204) _) _ _ _); k_dflt (refine' Mine.Does.use (Mine.names_does H HT ?p2 ?p3 ?p4 ?p5) ?k1 ?k2 ?k3 ?k4 ?kS ?k5 ?k6 ?k7 ?k8 ?kA ?_; (case k1 => k_asm); (case k2 => k_asm); (case k3 => k_asm); (case k4 => k_asm); (case kS => repeat' (first | exact Mine.Split.nil | refine' Mine.Split.cons ?_)); (case k5 => k_asm); (case k6 => first | exact rfl | assumption); (case k7 => ktr_room); (case k8 => ktr_units); (case kA => repeat' (first | exact Mine.Apart.nil | refine' Mine.Apart.cons (Mine.off_RL (by first | assumption | exact Ne.symm (by assumption) | exact Nat.ne_of_gt (by assumption) | exact Nat.ne_of_gt (And.left (by assumption))) (by first | exact Mine.off_lt (by assumption) | exact Mine.off_ne (by assumption) | exact Mine.off_lt (Mine.allLt_all (And.right (by assumption))))) ?_)); (case p2 => first | assumption | omega); (case p3 => assumption); (case p4 => assumption); (case p5 => assumption); k_whole); intro r' n' h' tk' F' N' ap' hr'; (try k_sweep); obtain ⟨l5, vals, nv, ti', e1, e2, e3, l6, l7⟩ := hr'; subst e1; subst e3; have hvl : vals.length ≤ 1000 := (Mine.strs_len e2).symm ▸ hns; (all_goals (try simp only [List.nil_append, List.cons_append] at N')))
  k_with "call type:tuple" => (k_here; (with_reducible show wpAny _ _ (call (Value.type _) [Value.ref _]) _ _ _); k_dflt (refine' Mine.tuple_mem ?k1 ?k2 ?k3 ?k4 ?_; (case k1 => k_asm); (case k2 => k_asm); (case k3 => k_mem); (case k4 => assumption); k_whole); intro D' h' F' N' l1; (try k_sweep); (try simp only [List.forall_mem_cons] at l1); (repeat (obtain ⟨la, l1⟩ := l1)))
  k_steps
  exact BodyEnd.pick (by k_asm) (by k_asm) sub3 ⟨_, _, _, vals, _, rfl, e2, rfl⟩
end
end Mine
theorem Mine.kNoneC10 : True := by
  k_with_none
  w_top off
  exact trivial
end C10
section C11
open PySem PySem.W PySem.Calls PyProof.Rows
set_option linter.unusedSimpArgs false
set_option maxRecDepth 100000
set_option maxHeartbeats 8000000
local macro_rules | `(tactic| walk_at $s:str) => `(tactic| k_extra $s)
local macro_rules | `(tactic| k_room) => `(tactic| ktr_room)
local macro_rules | `(tactic| k_mem) => `(tactic| first | assumption | exact List.mem_cons_self | (refine List.mem_cons_of_mem _ ?_; k_mem))
local macro_rules | `(tactic| k_ne) => `(tactic| first | assumption | exact Ne.symm (by assumption) | exact Nat.ne_of_gt (by assumption) | exact Nat.ne_of_lt (by assumption))
local macro_rules | `(tactic| k_all) => `(tactic| first | assumption | exact Mine.all_RL (by first | assumption | exact Nat.ne_of_gt (by assumption)) (by first | exact Mine.off_lt (by assumption) | exact Mine.off_ne (by assumption)))
namespace Mine
section
variable {w : World} {mean : ExcName → Option Value} {mg mb : Str → Option Value} {R : RN} {rest : Led} {ti : Tok} {i : Int} {j : Nat} {tj : Tok} {v : Value}
/-- the tokens from a place on: groups of a mode and its names, then what is no mode -/
noncomputable def Groups (TT : List (Str × Str)) : Int → List (Nat × List Str) → Prop
  | p, [] => ∃ kd wo, TT[p.toNat]? = some (kd, wo) ∧ ∀ k, k < 4 → (kd == Str.ofString "word" && wo == word4 k) = false
  | p, (k, ns) :: gs => k < 4 ∧ TT[p.toNat]? = some (Str.ofString "word", word4 k) ∧ 1 ≤ ns.length ∧
      (∀ (j : Nat) wo, ns[j]? = some wo → TT[(p + 1 + j).toNat]? = some (Str.ofString "word", wo) ∧ resv wo = false ∧ wo.length ≤ 1000) ∧
      (∃ kd wo, TT[(p + 1 + ns.length).toNat]? = some (kd, wo) ∧ (kd == Str.ofString "word" && !resv wo) = false ∧ wo.length ≤ 1000) ∧ Groups TT (p + 1 + ns.length) gs
noncomputable def rowsOf (gs : List (Nat × List Str)) : List (Str × Str) := gs.flatMap fun g => g.2.map fun n => (mode4 g.1, n)
noncomputable def lenOf (gs : List (Nat × List Str)) : Nat := (gs.map fun g => 1 + g.2.length).sum
noncomputable def modeOf : List (Nat × List Str) → Str
  | [] => Str.ofString ""
  | (k, _) :: _ => mode4 k
noncomputable def posOf (p : Int) : List (Nat × List Str) → Int
  | [] => p
  | _ :: _ => p + 1
theorem word4_inj {a b : Nat} (ha : a < 4) (hb : b < 4) (h : (word4 a == word4 b) = true) : a = b := by
  rcases a with _ | _ | _ | _ | a <;> rcases b with _ | _ | _ | _ | b <;> first | rfl | omega | exact absurd h (by decide +kernel)
theorem mode4_ne (k : Nat) : (mode4 k == Str.ofString "") = false := by
  rcases k with _ | _ | _ | k
  · decide +kernel
  · decide +kernel
  · decide +kernel
  · show (Str.ofString "extend" == Str.ofString "") = false
    decide +kernel
theorem gr_does {TT : List (Str × Str)} {gs : List (Nat × List Str)} (H : Rd R rest) (HT : Toks w R rest TT) (hi : 0 ≤ i) (hg : Groups TT i gs) :
    Does w mean mg mb 5 33 [.ref R.x] (RL w R rest i ti) (fun r n => ∃ ti' u, n = RL w R rest (posOf i gs) ti' ∧ r = .str (modeOf gs) u) := by
  cases gs with
  | nil =>
    obtain ⟨kd, wo, h1, h2⟩ := hg
    obtain ⟨v, hv, ht⟩ := HT.at h1
    refine (mode_here_does H hi hv ht).mono fun r n h => ?_
    rcases h with ⟨k, ti', u, hk, hb, _, _⟩ | ⟨ti', u, _, e1, e2⟩
    · exact absurd hb (by rw [h2 k hk]; decide)
    · exact ⟨ti', u, e1, e2⟩
  | cons g gs =>
    obtain ⟨k, ns⟩ := g
    obtain ⟨hk, h1, _⟩ := hg
    obtain ⟨v, hv, ht⟩ := HT.at h1
    refine (mode_here_does H hi hv ht).mono fun r n h => ?_
    rcases h with ⟨k', ti', u, hk', hb, e1, e2⟩ | ⟨ti', u, hb, _, _⟩
    · rw [beq_self_eq_true, Bool.true_and] at hb
      obtain rfl := word4_inj hk hk' hb
      exact ⟨ti', u, e1, e2⟩
    · have := hb k hk
      rw [beq_self_eq_true, beq_self_eq_true] at this
      cases this
theorem apart_rows {rl : Addr} {o : Obj} {tups : Led} {p : Int} {t : Tok} (h1 : rl ≠ R.dx ∧ ∀ q ∈ rest, rl ≠ q.1) (h2 : ∀ b ∈ tups, b.1 ≠ R.dx ∧ ∀ q ∈ rest, b.1 ≠ q.1) : Apart ((rl, o) :: tups) (RL w R rest p t) := fun b hb => by
  rcases List.mem_cons.mp hb with rfl | hb
  · exact off_RL h1.1 h1.2
  · exact off_RL (h2 b hb).1 (h2 b hb).2
theorem upd_rows {a I rl : Addr} {o o' oa oI : Obj} {r : Led} (l : AllLt a ((I, oI) :: (rl, o) :: r)) (h : rl ≠ I) (hr : ∀ p ∈ r, p.1 ≠ rl) : Upd rl o o' ((a, oa) :: (I, oI) :: (rl, o) :: r) ((a, oa) :: (I, oI) :: (rl, o') :: r) :=
  .tail (Nat.ne_of_gt l.2.1) (.tail (Ne.symm h) (.head hr))
theorem list_ne {h₀ h : Heap} {L rl l : Addr} {refs vals : List Value} {nr nv : Nat} {led tups : Led} {rs : List (Str × Str)} {ns : List Str} (N : News h₀ L h led) (h1 : (rl, listOf refs.toArray nr) ∈ led) (h2 : (l, listOf vals.toArray nv) ∈ led)
    (hr : RowsIn tups refs rs) (hs : StrsAre vals ns) (hn : 1 ≤ ns.length) : l ≠ rl := by
  rintro rfl
  have e := (N _ h1).1.symm.trans (N _ h2).1
  have e2 : refs = vals := by
    have := congrArg Obj.data (Option.some.inj e)
    injection this with e3 _
    simpa using e3
  subst e2
  cases hs with
  | nil => simp at hn
  | cons _ _ _ => cases hr
theorem lookup_two {a b x : Str} {u v : Value} (h : [a, b].contains x = false) : [(a, u), (b, v)].reverse.lookup x = none := by
  simp only [List.contains_cons, List.contains_nil, Bool.or_false, Bool.or_eq_false_iff] at h
  show List.lookup x [(b, v), (a, u)] = none
  rw [List.lookup_cons, h.2, List.lookup_cons, h.1]
  rfl
theorem rows_snoc (dn : List (Nat × List Str)) (k : Nat) (ns : List Str) : rowsOf (dn ++ [(k, ns)]) = rowsOf dn ++ ns.map fun n => (mode4 k, n) := by
  unfold rowsOf
  rw [List.flatMap_append]
  simp
theorem len_snoc (dn : List (Nat × List Str)) (k : Nat) (ns : List Str) : lenOf (dn ++ [(k, ns)]) = lenOf dn + (1 + ns.length) := by
  unfold lenOf
  simp
theorem rows_le (dn rem : List (Nat × List Str)) : (rowsOf dn).length ≤ (rowsOf (dn ++ rem)).length := by
  unfold rowsOf
  rw [List.flatMap_append, List.length_append]
  omega
theorem rows_pos {TT : List (Str × Str)} : ∀ {p : Int} {gs : List (Nat × List Str)}, Groups TT p gs → gs ≠ [] → 0 < (rowsOf gs).length
  | _, [], _, h => absurd rfl h
  | p, (k, ns) :: gs, hg, _ => by
    obtain ⟨_, _, h, _⟩ := hg
    show 0 < (List.flatMap _ ((k, ns) :: gs)).length
    rw [List.flatMap_cons, List.length_append, List.length_map]
    dsimp only
    omega
theorem perm3 {a b c : Addr × Obj} {r : Led} : ∀ q ∈ b :: c :: a :: r, q ∈ a :: b :: c :: r := fun q hq => by
  rcases List.mem_cons.mp hq with rfl | hq
  · exact .tail _ (.head _)
  · rcases List.mem_cons.mp hq with rfl | hq
    · exact .tail _ (.tail _ (.head _))
    · rcases List.mem_cons.mp hq with rfl | hq
      · exact .head _
      · exact .tail _ (.tail _ (.tail _ hq))
theorem drop_mid {b c : Addr × Obj} {t r : Led} : ∀ q ∈ c :: (t ++ r), q ∈ c :: (t ++ b :: r) := fun q hq => by
  rcases List.mem_cons.mp hq with rfl | hq
  · exact .head _
  · rcases List.mem_append.mp hq with hq | hq
    · exact .tail _ (List.mem_append_left _ hq)
    · exact .tail _ (List.mem_append_right _ (.tail _ hq))
theorem off3 {a I rl : Addr} {oa o o' : Obj} {r : Led} (l : I < a ∧ rl < a ∧ AllLt a r) (h : ∀ q ∈ (rl, o) :: r, q.1 ≠ I) : ∀ q ∈ (rl, o') :: (a, oa) :: r, q.1 ≠ I := fun q hq => by
  rcases List.mem_cons.mp hq with rfl | hq
  · exact h (rl, o) (.head _)
  · rcases List.mem_cons.mp hq with rfl | hq
    · exact Nat.ne_of_gt l.1
    · exact h q (.tail _ hq)
theorem off_tups {a I rl : Addr} {oa : Obj} {b : Addr × Obj} {tups : Led} {p : Int} {t : Tok} (l : I < a ∧ rl < a ∧ AllLt a (tups ++ b :: RL w R rest p t)) (h : ∀ b ∈ tups, b.1 ≠ R.dx ∧ ∀ q ∈ rest, b.1 ≠ q.1) : ∀ b ∈ (a, oa) :: tups, b.1 ≠ R.dx ∧ ∀ q ∈ rest, b.1 ≠ q.1 := fun q hq => by
  rcases List.mem_cons.mp hq with rfl | hq
  · have l' := allLt_all l.2.2
    exact ⟨Nat.ne_of_gt (l' (R.dx, _) (List.mem_append_right _ (.tail _ (.head _)))), fun q hq => Nat.ne_of_gt (l' q (List.mem_append_right _ (.tail _ (.tail _ hq))))⟩
  · exact h q hq
theorem ne_tups {a I rl : Addr} {oa : Obj} {r tups : Led} (l : I < a ∧ rl < a ∧ AllLt a r) (h : ∀ b ∈ tups, b.1 ≠ rl) : ∀ b ∈ (a, oa) :: tups, b.1 ≠ rl := fun q hq => by
  rcases List.mem_cons.mp hq with rfl | hq
  · exact Nat.ne_of_gt l.2.1
  · exact h q hq
theorem rows_push {led : Led} {vs : List Value} {rs : List (Str × Str)} {d : List Str} {a : Addr} {m n : Str} {u u' : Tok} (h : RowsIn led vs (rs ++ d.map fun x => (m, x))) : RowsIn ((a, tupO [.str m u, .str n u']) :: led) (vs ++ [.ref a]) (rs ++ (d ++ [n]).map fun x => (m, x)) := by
  rw [List.map_append, ← List.append_assoc]
  exact (h.mono fun _ hp => List.mem_cons_of_mem _ hp).push (List.mem_cons_self)
/-- read_open's frame at its loop's head -/
noncomputable def fr_open (mv : Value) (nm : Option Value) (rl x : Addr) : Str → Option Value := fun y =>
  if y = Str.ofString "mode" then some mv else if y = Str.ofString "name" then nm else if y = Str.ofString "rows" then some (.ref rl) else [(Str.ofString "reader", Value.ref x), (Str.ofString "read_body", Value.none)].reverse.lookup y
theorem read_open_does {TT : List (Str × Str)} {gs : List (Nat × List Str)} (H : Rd R rest) (HT : Toks w R rest TT) (hi : 0 ≤ i) (h0 : TT[i.toNat]? = some (Str.ofString "word", Str.ofString "OPEN")) (hg : Groups TT (i + 1) gs) (hne : gs ≠ []) (hz : (rowsOf gs).length ≤ 1000) :
    Does w mean mg mb 12 40 [.ref R.x, .none] (RL w R rest i ti) (fun r n => ∃ t t2 u refs tups ti', r = .ref t ∧ RowsIn tups refs (rowsOf gs) ∧ n = (t, tupO [.str (Str.ofString "open") u, .ref t2]) :: (t2, tupO refs) :: (tups ++ RL w R rest (i + 1 + lenOf gs) ti')) := by
  obtain ⟨v, hv, ht⟩ := HT.at h0
  have hi1 : 0 ≤ i + 1 := by omega
  have a1 : Txt.split (Str.ofString "OPEN") (Str.ofString " ") = [Str.ofString "OPEN"] := by decide +kernel
  have b1 : (Str.ofString "OPEN").length + 2 ≤ sizeLine := by decide +kernel
  refine' Does.of [(Str.ofString "reader", .ref R.x), (Str.ofString "read_body", .none)] ?hf ?hcd ?hb ?hl ?c1 ?c2 ?c3 ?c4 ?h
  case hf => exact rfl
  case hcd => exact rfl
  case hb =>
    exact fun s X => BindsTo.of_eq rfl
  case hl => exact locs rfl
  case c1 => exact rfl
  case c2 => exact rfl
  case c3 => exact rfl
  case c4 => decide
  intro dp un gd cn cs a ccd cl outer base L g L' s₁ F X N B T hK hR hU hLt
  revert X; k_fill; intro X
  have i1 := H.inst
  have i2 := H.list
  have i3 := H.ne
  k_with_none
  k_with "call ref" => (k_here; (with_reducible show wpAny _ _ (call (Value.ref 168) _) _ _ _); k_dflt (refine' Mine.Does.use (Mine.need_does H ?p2 ?p3 ?p4 ?p5 ?p6) ?k1 ?k2 ?k3 ?k4 ?kS ?k5 ?k6 ?k7 ?k8 ?kA ?_; (case k1 => k_asm); (case k2 => k_asm); (case k3 => k_asm); (case k4 => k_asm); (case kS => repeat' (first | exact Mine.Split.nil | refine' Mine.Split.cons ?_)); (case k5 => k_asm); (case k6 => first | exact rfl | assumption); (case k7 => ktr_room); (case k8 => ktr_units); (case kA => repeat' (first | exact Mine.Apart.nil | refine' Mine.Apart.cons (Mine.off_RL (by first | assumption | exact Ne.symm (by assumption) | exact Nat.ne_of_gt (by assumption) | exact Nat.ne_of_gt (And.left (by assumption))) (by first | exact Mine.off_lt (by assumption) | exact Mine.off_ne (by assumption) | exact Mine.off_lt (Mine.allLt_all (And.right (by assumption))))) ?_)); (case p2 => first | assumption | omega); (case p3 => assumption); (case p4 => assumption); (case p5 => assumption); (case p6 => assumption); k_whole); intro r' n' h' tk' F' N' ap' hr'; (try k_sweep); obtain ⟨ti', e1, e2⟩ := hr'; subst e1; subst e2; (all_goals (try simp only [List.nil_append, List.cons_append] at N')))
  k_with "call ref" => (k_here; (with_reducible show wpAny _ _ (call (Value.ref 33) _) _ _ _); k_dflt (refine' Mine.Does.use (Mine.gr_does H HT ?p2 ?p3) ?k1 ?k2 ?k3 ?k4 ?kS ?k5 ?k6 ?k7 ?k8 ?kA ?_; (case k1 => k_asm); (case k2 => k_asm); (case k3 => k_asm); (case k4 => k_asm); (case kS => repeat' (first | exact Mine.Split.nil | refine' Mine.Split.cons ?_)); (case k5 => k_asm); (case k6 => first | exact rfl | assumption); (case k7 => ktr_room); (case k8 => ktr_units); (case kA => repeat' (first | exact Mine.Apart.nil | refine' Mine.Apart.cons (Mine.off_RL (by first | assumption | exact Ne.symm (by assumption) | exact Nat.ne_of_gt (by assumption) | exact Nat.ne_of_gt (And.left (by assumption))) (by first | exact Mine.off_lt (by assumption) | exact Mine.off_ne (by assumption) | exact Mine.off_lt (Mine.allLt_all (And.right (by assumption))))) ?_)); (case p2 => first | assumption | omega); (case p3 => assumption); k_whole); intro r' n' h' tk' F' N' ap' hr'; (try k_sweep); obtain ⟨ti', u', e1, e2⟩ := hr'; subst e1; subst e2; (all_goals (try simp only [List.nil_append, List.cons_append] at N')))
  k_with "exec While Compare cons nil" => (refine Mine.Hold.out ?_)
  k_steps
  rename_i rl y1 l1 y2 y3 y4 F1 N1



  unfold Hold
  obtain ⟨l2, l3⟩ := l1
  have hrl : rl ≠ R.dx ∧ ∀ q ∈ rest, rl ≠ q.1 := ⟨Nat.ne_of_gt l2, fun q hq => Nat.ne_of_gt (allLt_all l3 q hq)⟩
  clear l2 l3
  refine While_inv (fun n m₁ news₁ => ∃ done rem nm u p t refs nr tups, gs = done ++ rem ∧ rem.length = n ∧ p = i + 1 + (lenOf done : Nat) ∧ Groups TT p rem ∧ RowsIn tups refs (rowsOf done) ∧ (∀ b ∈ tups, b.1 ≠ R.dx ∧ ∀ q ∈ rest, b.1 ≠ q.1) ∧ (∀ b ∈ tups, b.1 ≠ rl) ∧
    m₁ = fr_open (.str (modeOf rem) u) nm rl R.x ∧ news₁ = (rl, listOf refs.toArray nr) :: (tups ++ RL w R rest (posOf p rem) t)) (n₀ := gs.length) F1 N1 ?start ?turn
  case start =>
    have hN : ¬ (Str.ofString "name" = Str.ofString "rows") := by decide +kernel
    have hN2 : [Str.ofString "reader", Str.ofString "read_body"].contains (Str.ofString "name") = false := by decide +kernel
    refine ⟨[], gs, none, u', i + 1, _, [], 0, [], rfl, rfl, by simp [lenOf], hg, .nil, (fun _ h => nomatch h), (fun _ h => nomatch h), ?_, rfl⟩
    funext y
    unfold fr_open
    by_cases h1 : y = Str.ofString "mode"
    · rw [if_pos h1, if_pos h1]
    · rw [if_neg h1, if_neg h1]
      by_cases h2 : y = Str.ofString "name"
      · subst h2
        exact (if_neg hN).trans ((lookup_two hN2).trans (if_pos rfl).symm)
      · rw [if_neg h2]
  clear F1 N1
  rintro n m₁ news₁ h₁ tk₁ F2 N2 ⟨dn, rem, nm, u, p, t, refs, nr, tups, rfl, hn, hp, hgr, hrw, htu, hto, rfl, rfl⟩
  have hz1 : refs.length ≤ 1000 := by
    rw [hrw.length]
    exact Nat.le_trans (rows_le dn rem) hz
  have hp0 : 0 ≤ p := by omega
  cases rem with
  | nil =>
    have hpos : refs.isEmpty = false := by
      have h1 := rows_pos hg hne
      rw [List.append_nil, ← hrw.length] at h1
      cases refs with
      | nil => simp at h1
      | cons _ _ => rfl
    unfold fr_open at F2
    dsimp only [modeOf, posOf] at F2 N2
    k_with_none
    k_with "call type:tuple" => (k_here; (with_reducible show wpAny _ _ (call (Value.type _) [Value.ref _]) _ _ _); k_dflt (refine' Mine.tuple_mem ?k1 ?k2 ?k3 ?k4 ?_; (case k1 => k_asm); (case k2 => k_asm); (case k3 => exact List.mem_cons_self); (case k4 => assumption); k_whole); intro D' h' F' N' l1; (try k_sweep))
    k_steps
    have e : RL w R rest p t = RL w R rest (i + 1 + (lenOf (dn ++ []) : Nat)) t := by rw [List.append_nil, ← hp]
    exact BodyEnd.pick (by k_asm) (by k_asm) sub3 ⟨_, _, _, refs, tups, t, rfl, (by rw [List.append_nil]; exact hrw), by rw [← e]⟩
  | cons g rem =>
    obtain ⟨k, ns⟩ := g
    obtain ⟨g1, g2, g3, g4, g5, g6⟩ := id hgr
    unfold fr_open at F2
    dsimp only [modeOf, posOf] at F2 N2
    have hp1 : 0 ≤ p + 1 := by omega
    have hns : (rowsOf dn).length + ns.length ≤ 1000 := by
      have h1 := rows_le (dn ++ [(k, ns)]) rem
      rw [rows_snoc, List.length_append, List.length_map, List.append_assoc] at h1
      exact Nat.le_trans h1 hz
    replace hns : ns.length ≤ 1000 := by omega
    have hm4 : (mode4 k != Str.ofString "") = true := by
      unfold bne
      rw [mode4_ne k]
      rfl
    k_with_none
    k_with "call ref" => (k_here; (with_reducible show wpAny _ _ (call (Value.ref 204) _) _ _ _); k_dflt (refine' Mine.Does.use (Mine.names_does H HT ?p2 ?p3 ?p4 ?p5) ?k1 ?k2 ?k3 ?k4 ?kS ?k5 ?k6 ?k7 ?k8 ?kA ?_; (case k1 => k_asm); (case k2 => k_asm); (case k3 => k_asm); (case k4 => k_asm); (case kS => exact Mine.Split.cons Mine.Split.app); (case k5 => k_asm); (case k6 => first | exact rfl | assumption); (case k7 => ktr_room); (case k8 => ktr_units); (case kA => exact Mine.apart_rows hrl htu); (case p2 => first | assumption | omega); (case p3 => assumption); (case p4 => assumption); (case p5 => assumption); k_whole); intro r' n' h' tk' F' N' ap' hr'; (try k_sweep); obtain ⟨l5, vals, nv, ti', e1, e2, e3, l6, l7⟩ := hr'; subst e1; subst e3; have hvl : vals.length ≤ 1000 := (Mine.strs_len e2).symm ▸ hns; (all_goals (try simp only [List.nil_append, List.cons_append] at N')))
    k_with "pyIter ref" => (refine Mine.Hold.out ?_)
    k_steps
    unfold Hold
    have hl5 : l5 ≠ rl := list_ne N' (.head _) (.tail _ (List.mem_append_right _ (.head _))) hrw e2 g3
    have hnsz : (rowsOf dn).length + ns.length ≤ 1000 := by
      have h1 := rows_le (dn ++ [(k, ns)]) rem
      rw [rows_snoc, List.length_append, List.length_map, List.append_assoc] at h1
      exact Nat.le_trans h1 hz
    refine loop_list (vs := vals) (n := nv) rfl F' N' (.tail _ (List.mem_append_right _ (.head _))) (fun r m n => ∃ d rm nm refs nr tups, ns = d ++ rm ∧ StrsAre r rm ∧ RowsIn tups refs (rowsOf dn ++ d.map fun x => (mode4 k, x)) ∧ (∀ b ∈ tups, b.1 ≠ R.dx ∧ ∀ q ∈ rest, b.1 ≠ q.1) ∧ (∀ b ∈ tups, b.1 ≠ rl) ∧
      m = fr_open (.str (mode4 k) u) nm rl R.x ∧ n = (rl, listOf refs.toArray nr) :: (tups ++ (l5, listOf vals.toArray nv) :: RL w R rest (p + 1 + (ns.length : Nat)) ti')) ⟨[], ns, nm, refs, nr, tups, rfl, e2, by simpa using hrw, htu, hto, rfl, rfl⟩ ?turn2 ?done2
    case turn2 =>
      clear F' N' htu hto hrw
      rintro I it v2 r m₂ news₂ h₂ tk₂ ⟨pre, hpre⟩ ⟨d, rm, nm', refs', nr', tups', hd', hs', hrw, htu, hto, rfl, rfl⟩ hl ho F3 N3
      cases hs' with
      | cons y ty hs' =>
      have hrI : rl ≠ I := ho (rl, _) (.head _)
      have hall : ∀ b ∈ tups' ++ (l5, listOf vals.toArray nv) :: RL w R rest (p + 1 + (ns.length : Nat)) ti', b.1 ≠ rl := fun b hb => by
        rcases List.mem_append.mp hb with hb | hb
        · exact hto b hb
        · rcases List.mem_cons.mp hb with rfl | hb
          · exact hl5
          · exact Ne.symm (off_RL hrl.1 hrl.2 b hb)
      have hz2 : refs'.length ≤ 1000 := by
        have h1 := hrw.length
        rw [List.length_append, List.length_map] at h1
        rw [hd', List.length_append] at hnsz
        omega
      unfold fr_open at F3
      k_with_none
      k_with "call builtin:list.append" => (k_here; (with_reducible show wpAny _ _ (call (Value.builtin _) [Value.ref _, _]) _ _ _); k_dflt (refine' Mine.append_up ?k1 ?k2 ?k3 ?k4 ?_; (case k1 => k_asm); (case k2 => k_asm); (case k3 => exact Mine.upd_rows (by assumption) hrI hall); (case k4 => assumption); k_whole); intro h' F' N'; (try k_sweep))
      k_steps
      refine UnrEnd.intro (by k_asm) (by k_asm) _ perm3 (off3 (by assumption) ho) ⟨.tail _ (.tail _ (List.mem_append_right _ (.head _))), d ++ [y], _, some (.str y ty), refs' ++ [_], nr' + 1, _ :: tups', by simp [hd'], hs', rows_push hrw, off_tups (by assumption) htu, ne_tups (by assumption) hto, ?_, rfl⟩
      funext z
      unfold fr_open
      have hNM : ¬ (Str.ofString "name" = Str.ofString "mode") := by decide +kernel
      by_cases h1 : z = Str.ofString "name"
      · subst h1
        exact (if_pos rfl).trans ((if_neg hNM).trans (if_pos rfl)).symm
      · rw [if_neg h1, if_neg h1, if_neg h1]
    case done2 =>
      clear F' N' htu hto hrw
      rintro m₂ news₂ h₂ tk₂ ⟨d, rm, nm', refs', nr', tups', hd', hs', hrw, htu, hto, rfl, rfl⟩ hl F3 N3
      cases hs'
      rw [List.append_nil] at hd'
      subst hd'
      have N4 : News _ _ _ ((rl, listOf refs'.toArray nr') :: (tups' ++ RL w R rest (p + 1 + (ns.length : Nat)) ti')) := fun b hb => N3 b (drop_mid b hb)
      clear N3
      unfold fr_open at F3
      have hp2 : 0 ≤ p + 1 + (ns.length : Nat) := by omega
      k_with_none
      k_with "call ref" => (k_here; (with_reducible show wpAny _ _ (call (Value.ref 33) _) _ _ _); k_dflt (refine' Mine.Does.use (Mine.gr_does H HT ?p2 ?p3) ?k1 ?k2 ?k3 ?k4 ?kS ?k5 ?k6 ?k7 ?k8 ?kA ?_; (case k1 => k_asm); (case k2 => k_asm); (case k3 => k_asm); (case k4 => k_asm); (case kS => exact Mine.Split.cons Mine.Split.app); (case k5 => k_asm); (case k6 => first | exact rfl | assumption); (case k7 => ktr_room); (case k8 => ktr_units); (case kA => exact Mine.apart_rows hrl htu); (case p2 => first | assumption | omega); (case p3 => assumption); k_whole); intro r' n' h' tk' F' N' ap' hr'; (try k_sweep); obtain ⟨ti', u', e1, e2⟩ := hr'; subst e1; subst e2; (all_goals (try simp only [List.nil_append, List.cons_append] at N')))
      k_steps
      refine WhileStep.intro (by k_asm) (by k_asm) (n' := rem.length) (by rw [← hn, List.length_cons]; omega) ⟨dn ++ [(k, ns)], rem, nm', u', p + 1 + (ns.length : Nat), ti', refs', nr', tups', by simp, rfl, by rw [len_snoc]; omega, g6, by rw [rows_snoc]; exact hrw, htu, hto, ?_, rfl⟩
      funext z
      unfold fr_open
      by_cases h1 : z = Str.ofString "mode"
      · rw [if_pos h1, if_pos h1]
      · rw [if_neg h1, if_neg h1, if_neg h1]
end
end Mine
theorem Mine.kNoneC11 : True := by
  k_with_none
  w_top off
  exact trivial
end C11
section C12
open PySem PySem.W PySem.Calls PyProof.Rows
set_option linter.unusedSimpArgs false
set_option maxRecDepth 100000
set_option maxHeartbeats 8000000
namespace Mine
section
variable {prog : Program} {w : World} {A : Around} {E : Value → Shared → Prop} {s : Shared} {env : Env} {h₀ : Heap} {L l : Addr} {m : Str → Option Value} {news : Led} {vs : List Value} {nv : Nat}
/-- how a turn of a comprehension ends -/
noncomputable def CEnd (h₀ : Heap) (L : Addr) (m : Str → Option Value) (s : Shared) (its : Led) (J : Value → Led → Prop) (y : Value) (s' : Shared) : Prop :=
  ∃ h' tk' news₂, s' = { s with heap := h', toks := tk' } ∧ Fr h₀ L h' m ∧ News h₀ L h' (its ++ news₂) ∧ Apart its news₂ ∧ J y news₂
/-- a comprehension over enumerate(a list of the ledger), by what holds of what is built -/
theorem comp_enum {elt iter : PySem.Expr} {x x₂ : Str} {px px₂ tp : Pos} {tk0} {scope : Scope} {cl : List (Str × Addr)} {pos : Pos} {Q : Value → Shared → Prop} (hh : A.handled = none) (F : Fr h₀ L s.heap m) (N : News h₀ L s.heap news) (hl : (l, listOf vs.toArray nv) ∈ news) (hsz : vs.length ≤ sizeLine)
    (hcell : ∀ y ∈ scope.names, y.2 ≠ .cell) (hkind : scope.kind = .function) (hx : scope.names.lookup x = some .local) (hx₂ : scope.names.lookup x₂ = some .local) (hxx : x ≠ x₂)
    (J : Nat → List Value → Led → Prop) (h0 : J 0 [] news) (hJl : ∀ i ys nw, J i ys nw → (l, listOf vs.toArray nv) ∈ nw)
    (step : ∀ (i : Nat) (a : Value) t ys news₁ e oe it oi C oC D m₂ h tk (E' : Value → Shared → Prop), vs[i]? = some a → J i ys news₁ → LCg.NsObj oC m₂ → m₂ x = some (.int i t) → m₂ x₂ = some a → Fr h₀ L h m → News h₀ L h ((e, oe) :: (it, oi) :: (C, oC) :: (D, LCg.lst ys) :: news₁) →
      Apart [(e, oe), (it, oi), (C, oC), (D, LCg.lst ys)] news₁ →
      wpAny (model prog w) A (eval elt (compEnvC scope cl C env)) (CEnd h₀ L m s [(e, oe), (it, oi), (C, oC), (D, LCg.lst ys)] (fun y n => J (i + 1) (ys ++ [y]) n)) E' { s with heap := h, toks := tk })
    (fin : ∀ D h tk ys news', Fr h₀ L h m → News h₀ L h ((D, LCg.lst ys) :: news') → (∀ p ∈ news', p.1 ≠ D) → J vs.length ys news' → Q (.ref D) { s with heap := h, toks := tk }) :
    wpAny (model prog w) A (call (.type "enumerate") [.ref l]) (fun xv s₁ => wpAny (model prog w) A (pyIter xv) (fun itv s₂ => wpAny (model prog w) A (newList []) (fun acc s₃ =>
      wpAny (model prog w) A (newFunctionEnv scope env.globals cl [] env.qual none .none (some env)) (fun cenv s₄ =>
        codeAny (model prog w) A (.compStart (.ListComp elt [⟨.Tuple [.Name x px, .Name x₂ px₂] tk0 tp, iter, [], 0⟩] scope pos) 0 itv acc { cenv with scope := relabel scope env }) (compPost (model prog w) A E none Q acc cenv.locals) s₄) E s₃) E s₂) E s₁) E s := by
  have hL : s.heap.IsList l vs.toArray := isList_mem N hl
  have hlt : @LT.lt Nat _ l s.heap.objs.size := Heap.lt_size (N _ hl).1
  have hLlt : @LT.lt Nat _ L s.heap.objs.size := F.ns.lt
  refine call_enumerate_list hL fun h1 hE hI hs1 hk1 => ?_
  generalize hz : s.heap.objs.size = z at hE hI hs1 hlt hLlt ⊢
  refine wpAny_pyIter_enum hE ?_
  refine wpAny_newObj_type (wpAny_newFunctionEnv hcell (by intro y hy; simp at hy) (fun h₁ hns₁ hsb₁ => ?_) hkind)
  dsimp only at hns₁ hsb₁ ⊢
  generalize hH2 : h1.push { cls := .type "list", dict := none, data := .seq ([] : List Value).toArray } = H2 at hns₁ hsb₁ ⊢
  have hC : H2.objs.size = z + 3 := by rw [← hH2, Heap.size_push, hs1]
  rw [hC] at hns₁ hsb₁ ⊢
  rw [hs1]
  have up : ∀ b o, h1.get? b = some o → h₁.get? b = some o := fun b o e => hsb₁.extBut b o (by have : @LT.lt Nat _ b h1.objs.size := Heap.lt_size e; exact neN (by omega)) (Heap.get?_push_of_some _ (hH2 ▸ Heap.get?_push_of_some _ e))
  have old : ∀ b o, s.heap.get? b = some o → h₁.get? b = some o := fun b o e => up b o (hk1 b o e)
  have hD : h₁.get? (z + 2) = some (LCg.lst []) := hsb₁.extBut _ _ (neN (by omega)) (Heap.get?_push_of_some _ (hH2 ▸ hs1 ▸ Heap.get?_push_size _ rfl))
  have fresh₀ : ∀ a : Nat, z ≤ a → h₀.get? a = none := fun a ha => by
    cases e : h₀.get? a with
    | none => rfl
    | some o' =>
      have := Heap.lt_size (F.keep a o' e)
      rw [hz] at this
      exact absurd this (Nat.not_lt.mpr ha)
  have hlo : ∀ p ∈ news, @LT.lt Nat _ p.1 z := fun p hp => hz ▸ Heap.lt_size (N p hp).1
  have hE₁ : IsEnum h₁ (z + 1) z 0 .none := up _ _ hE
  have hI₁ : h₁.IsListIter z l 0 := hI.at fun o e => up _ _ e
  have W : WalksU prog w A (z + 1) [z + 1, z, l] [z + 1, z] vs.toArray.size _ _ _ := (WalksT.enumerate hh (z + 1) z l (Nat.succ_ne_self _) (neN (by omega)) (Nat.ne_of_lt hlt) vs.toArray).toU
  have loop : ∀ s₃ : Shared, s₃ = { s with heap := h₁, toks := s.toks + ([] : List (Str × Value)).length } →
      codeAny (model prog w) A (.compLoop (.ListComp elt [⟨.Tuple [.Name x px, .Name x₂ px₂] tk0 tp, iter, [], 0⟩] scope pos) 0 (.ref (z + 1)) (.ref (z + 2)) (compEnvC scope cl (z + 3) env))
        (compPost (model prog w) A E none Q (.ref (z + 2)) (z + 3)) s₃ := by
    rintro s₃ rfl
    refine LCp.codeAny_compLoop_pair
      (fun k s' => ∃ h' tk i ys m' news', s' = { s with heap := h', toks := tk } ∧ i ≤ vs.length ∧ k = vs.length + 1 - i ∧ ys.length = i ∧ ((∃ old, IsEnum h' (z + 1) z (i : Nat) old) ∧ h'.IsListIter z l i ∧ h'.IsList l vs.toArray) ∧ Fr h₀ L h' m ∧ h'.Ns (z + 3) m' ∧ News h₀ L h' ((z + 2, LCg.lst ys) :: news') ∧
        (∀ p ∈ news', @Ne Nat p.1 z ∧ @Ne Nat p.1 (z + 1) ∧ @Ne Nat p.1 (z + 2) ∧ @Ne Nat p.1 (z + 3)) ∧ J i ys news') ?_ (vs.length + 1)
      ⟨h₁, _, 0, [], _, news, rfl, Nat.zero_le _, rfl, rfl, ⟨⟨_, hE₁⟩, hI₁, hL.at fun o e => old _ _ e⟩, F.keeps old, hns₁, fun p hp => ?_, fun p hp => ?_, h0⟩
    · rintro k s' ⟨h', tk, i, ys, m', news', rfl, hi, rfl, hyl, hst', F', hn', N', off', hJ⟩
      have wrk : ∀ {ha hb : Heap}, (∀ (b : Nat) o, b ∉ [z + 1, z] → ha.get? b = some o → hb.get? b = some o) → ∀ (b : Nat) o, b ≠ z + 1 → b ≠ z → ha.get? b = some o → hb.get? b = some o := fun hk b o h1 h2 e => hk b o (by simp [h1, h2]) e
      by_cases hlt2 : i < vs.length
      · refine W.item i _ _ _ (by rw [List.size_toArray]; exact hlt2) hst' fun T vals h₂ tk₂ hP hT hMid hk₂ => ?_
        obtain ⟨t, a, ha, rfl⟩ := hP
        have ha' : vs[i]? = some a := by simpa using ha
        have hTw := W.apart i T h₂ hMid
        refine W.go _ _ _ i T _ _ _ hMid fun h₃ hst₃ hk₃ => ?_
        have hT₃ := hT.at fun o e => hk₃ T o hTw e
        refine assign_Tuple_tuple hh hT₃ rfl rfl fun h₅ he => ?_
        have he' : ∀ b o, h₃.get? b = some o → h₅.get? b = some o := fun b o e => he b o (Nat.ne_of_lt (Heap.lt_size e)) e
        have k5 : ∀ (b : Nat) o, b ≠ z + 1 → b ≠ z → h'.get? b = some o → h₅.get? b = some o := fun b o h1 h2 e => he' b o (wrk hk₃ b o h1 h2 (wrk hk₂ b o h1 h2 e))
        have hn₅ : h₅.Ns (z + 3) m' := hn'.at' fun o e => k5 _ o (neN (by omega)) (neN (by omega)) e
        refine assignInOrder_cons (wpAny_assign_Name (wpAny_storeName_local (lookup_relabel_local hx) hn₅ (fun h₆ hn₆ hs₆ => ?_) (by simp [compEnvC, relabel, hkind])))
        refine assignInOrder_cons (wpAny_assign_Name (wpAny_storeName_local (lookup_relabel_local hx₂) hn₆ (fun h₇ hn₇ hs₇ => ?_) (by simp [compEnvC, relabel, hkind])))
        refine assignInOrder_nil ?_
        have k7 : ∀ (b : Nat) o, b ≠ z + 3 → h₃.get? b = some o → h₇.get? b = some o := fun b o hb e => hs₇.extBut b o hb (hs₆.extBut b o hb (he' b o e))
        have k27 : ∀ (b : Nat) o, b ≠ z + 1 → b ≠ z → b ≠ z + 3 → h'.get? b = some o → h₇.get? b = some o := fun b o h1 h2 h3 e => k7 b o h3 (wrk hk₃ b o h1 h2 (wrk hk₂ b o h1 h2 e))
        have hst₇ := W.frame _ _ _ hst₃ fun b hb o e => k7 b o (by
          rcases List.mem_cons.mp hb with rfl | hb
          · omega
          · rcases List.mem_cons.mp hb with rfl | hb
            · omega
            · rw [List.mem_singleton.mp hb]
              exact neN (by omega)) e
        obtain ⟨⟨oldv, heE⟩, heI, heL⟩ := hst₇
        have heI' := heI
        obtain ⟨oI, hoI, hcI, hdI⟩ := heI'
        obtain ⟨oC, heC, hoC⟩ := LCg.ns_obj hn₇
        have old₀ : ∀ (b : Nat) o, h₀.get? b = some o → b ≠ z + 1 ∧ b ≠ z ∧ b ≠ z + 3 := fun b o e => by
          refine ⟨fun q => ?_, fun q => ?_, fun q => ?_⟩ <;> (rw [fresh₀ b (by omega)] at e; cases e)
        have F₇ : Fr h₀ L h₇ m := ⟨F'.ns.at' fun o e => k27 L o (by omega) (by omega) (by omega) e, fun b o e => k27 b o (old₀ b o e).1 (old₀ b o e).2.1 (old₀ b o e).2.2 (F'.keep b o e), F'.above⟩
        have N₇ : News h₀ L h₇ ((z + 1, _) :: (z, oI) :: (z + 3, oC) :: (z + 2, LCg.lst ys) :: news') := fun p hp => by
          rcases List.mem_cons.mp hp with rfl | hp
          · exact ⟨heE, neN (show @Ne Nat (z + 1) L by omega), fresh₀ _ (by show z ≤ z + 1; omega)⟩
          · rcases List.mem_cons.mp hp with rfl | hp
            · exact ⟨hoI, neN (show @Ne Nat (z) L by omega), fresh₀ _ (Nat.le_refl _)⟩
            · rcases List.mem_cons.mp hp with rfl | hp
              · exact ⟨heC, neN (show @Ne Nat (z + 3) L by omega), fresh₀ _ (by show z ≤ z + 3; omega)⟩
              · have z7 := N' p hp
                refine ⟨k27 _ _ ?_ ?_ ?_ z7.1, z7.2⟩ <;> (rcases List.mem_cons.mp hp with rfl | hp)
                · exact neN (show @Ne Nat (z + 2) (z + 1) by omega)
                · exact (off' p hp).2.1
                · exact neN (show @Ne Nat (z + 2) (z) by omega)
                · exact (off' p hp).1
                · exact neN (show @Ne Nat (z + 2) (z + 3) by omega)
                · exact (off' p hp).2.2.2
        have ap : ∀ {o1 o2 o3 o4 : Obj} {nw : Led}, (∀ p ∈ nw, @Ne Nat p.1 z ∧ @Ne Nat p.1 (z + 1) ∧ @Ne Nat p.1 (z + 2) ∧ @Ne Nat p.1 (z + 3)) → Apart [(z + 1, o1), (z, o2), (z + 3, o3), (z + 2, o4)] nw := fun h => .cons (fun q hq => Ne.symm (h q hq).2.1) (.cons (fun q hq => Ne.symm (h q hq).1) (.cons (fun q hq => Ne.symm (h q hq).2.2.2) (.cons (fun q hq => Ne.symm (h q hq).2.2.1) .nil)))
        refine wpAny_mono (step i a t ys news' (z + 1) _ z oI (z + 3) oC (z + 2) _ h₇ _ _ ha' hJ hoC (by simp [hxx]) (by simp) F₇ N₇ (ap off')) (fun y s₄ h₄ => ?_) fun _ _ e => e
        obtain ⟨h₄, tk₄, news₄, rfl, F₄, N₄, ap₄, J₄⟩ := h₄
        have zD := (N₄ (z + 2, LCg.lst ys) (.tail _ (.tail _ (.tail _ (.head _))))).1
        have zE := (N₄ _ (.head _)).1
        have zI := (N₄ _ (.tail _ (.head _))).1
        have zC := (N₄ _ (.tail _ (.tail _ (.head _)))).1
        have N₄' : News h₀ L h₄ news₄ := fun p hp => N₄ p (.tail _ (.tail _ (.tail _ (.tail _ hp))))
        have off₄ : ∀ p ∈ news₄, @Ne Nat p.1 z ∧ @Ne Nat p.1 (z + 1) ∧ @Ne Nat p.1 (z + 2) ∧ @Ne Nat p.1 (z + 3) := fun p hp =>
          ⟨Ne.symm (ap₄ _ (.tail _ (.head _)) p hp), Ne.symm (ap₄ _ (.head _) p hp), Ne.symm (ap₄ _ (.tail _ (.tail _ (.tail _ (.head _)))) p hp), Ne.symm (ap₄ _ (.tail _ (.tail _ (.head _))) p hp)⟩
        refine append_at (hsz := by show ys.toArray.size ≤ sizeLine; rw [List.size_toArray, hyl]; exact Nat.le_trans hi hsz) zD fun h₅ hs₅ hD₅ => ?_
        refine ⟨vs.length + 1 - (i + 1), by omega, h₅, tk₄, i + 1, ys ++ [y], _, news₄, rfl, hlt2, rfl, by rw [List.length_append, List.length_singleton, hyl],
          ⟨⟨_, hs₅.extBut _ _ (neN (by omega)) zE⟩, ⟨oI, hs₅.extBut _ _ (neN (by omega)) zI, hcI, hdI⟩, isList_mem N₄' (hJl _ _ _ J₄) |>.at fun o e => hs₅.extBut _ _ (off₄ _ (hJl _ _ _ J₄)).2.2.1 e⟩,
          F₄.change hs₅ (neN (show @Ne Nat (z + 2) L by omega)) (fresh₀ _ (by omega)), (hoC.ns zC).sameBut hs₅ (neN (by omega)), fun p hp => ?_, off₄, J₄⟩
        rcases List.mem_cons.mp hp with rfl | hp
        · exact ⟨hD₅.trans (congrArg some (LCg.lst_snoc ys y)), neN (show @Ne Nat (z + 2) L by omega), fresh₀ _ (by show z ≤ z + 2; omega)⟩
        · exact ⟨hs₅.extBut _ _ (off₄ p hp).2.2.1 (N₄' p hp).1, (N₄' p hp).2⟩
      · obtain rfl : i = vs.length := by omega
        have e : vs.toArray.size = vs.length := List.size_toArray
        refine W.done _ _ _ (by rw [e]; exact hst') fun h₂ tk₂ hk₂ => ?_
        have k2 := wrk hk₂
        refine ⟨m', hn'.at' fun o e => k2 _ o (by omega) (by omega) e, fun h'' hs'' => ?_⟩
        have k3 : ∀ (b : Nat) o, b ≠ z + 1 → b ≠ z → b ≠ z + 3 → h'.get? b = some o → h''.get? b = some o := fun b o h1 h2 h3 e => hs''.extBut b o h3 (k2 b o h1 h2 e)
        have old₀ : ∀ (b : Nat) o, h₀.get? b = some o → b ≠ z + 1 ∧ b ≠ z ∧ b ≠ z + 3 := fun b o e => by
          refine ⟨fun q => ?_, fun q => ?_, fun q => ?_⟩ <;> (rw [fresh₀ b (by omega)] at e; cases e)
        refine fin (z + 2) h'' tk₂ ys news' ⟨F'.ns.at' fun o e => k3 L o (by omega) (by omega) (by omega) e, fun b o e => k3 b o (old₀ b o e).1 (old₀ b o e).2.1 (old₀ b o e).2.2 (F'.keep b o e), F'.above⟩ (fun p hp => ?_) (fun p hp => (off' p hp).2.2.1) hJ
        have z7 := N' p hp
        refine ⟨k3 _ _ ?_ ?_ ?_ z7.1, z7.2⟩ <;> (rcases List.mem_cons.mp hp with rfl | hp)
        · exact neN (show @Ne Nat (z + 2) (z + 1) by omega)
        · exact (off' p hp).2.1
        · exact neN (show @Ne Nat (z + 2) (z) by omega)
        · exact (off' p hp).1
        · exact neN (show @Ne Nat (z + 2) (z + 3) by omega)
        · exact (off' p hp).2.2.2
    · rcases List.mem_cons.mp hp with rfl | hp
      · exact ⟨hD, neN (show @Ne Nat (z + 2) L by omega), fresh₀ _ (by show z ≤ z + 2; omega)⟩
      · exact ⟨old _ _ (N p hp).1, (N p hp).2⟩
    · have := hlo p hp
      exact ⟨by omega, by omega, by omega, by omega⟩
  exact codeAny_compStart_list (loop _ rfl) (wpAny_pyIter_enum hE₁ (loop _ rfl))
end
end Mine
theorem Mine.kNoneC12 : True := by
  k_with_none
  w_top off
  exact trivial
end C12
section C13
open PySem PySem.W PySem.Calls PyProof.Rows PyProof.V PySem.Spec
set_option linter.unusedSimpArgs false
set_option maxRecDepth 100000
set_option maxHeartbeats 400000
namespace Mine
section
variable {prog : Program} {w : World} {A : Around} {E : Value → Shared → Prop} {s : Shared} {env : Env} {h₀ : Heap} {target : PySem.Expr} {body : List Stmt} {Q : Flow → Shared → Prop} {m₀ : Str → Option Value} {news : Led}
theorem allObj_of : ∀ {ws : List (Addr × String)} {k : Led → Prop}, (∀ its, Objs ws its → k its) → AllObj ws k
  | [], _, h => h [] trivial
  | (a, _) :: _, _, h => fun o ho => allObj_of fun its hits => h ((a, o) :: its) ⟨⟨rfl, ho⟩, hits⟩
/-- turns of a loop over written items, by what holds of what is still to come -/
theorem items_inv {β : Type} {ws : List (Addr × String)} {keep : Led} (f : Nat → β → Itm) (J : List β → Nat → (Str → Option Value) → Led → Prop)
    (turn : ∀ b r i m₁ news₁ v h tk its, J (b :: r) i m₁ news₁ → (∀ p ∈ keep, p ∈ news₁) → (f i b).Is v h → Objs ws its → Fr h₀ env.locals h m₁ → News h₀ env.locals h (its ++ news₁) →
      wpAny (model prog w) A (assign target env v) (fun _ s₂ => wpAny (model prog w) A (execs body env) (UnrPostW h₀ env.locals { s with heap := h, toks := tk } its (fun m' n' => SubL keep n' ∧ J r (i + 1) m' n') Q) E s₂) E { s with heap := h, toks := tk })
    (done : ∀ i m₁ news₁ h tk, J [] i m₁ news₁ → (∀ p ∈ keep, p ∈ news₁) → Fr h₀ env.locals h m₁ → News h₀ env.locals h news₁ → Q .next { s with heap := h, toks := tk }) :
    ∀ (r : List β) (i : Nat) m news, J r i m news → SubL keep news → ItemsRest prog w A E h₀ env target body Q s ws keep (r.mapIdx fun k b => f (i + k) b) m news
  | [], i, m, news, hj, hk => fun h tk F N => done i m news h tk hj hk.mem F N
  | b :: r, i, m, news, hj, hk => by
    rw [List.mapIdx_cons]
    intro v h tk hv F
    have e : (fun k b => f (i + (k + 1)) b) = fun k b => f (i + 1 + k) b := by
      funext k b
      congr 1
      omega
    refine allObj_of fun its hits N => ?_
    refine wpAny_mono (turn b r i m news v h tk its hj hk.mem hv hits F N) (fun _ s₂ h₂ => wpAny_mono h₂ (fun fl s₃ p => ?_) fun _ _ e => e) fun _ _ e => e
    have fin : UnrEndW h₀ env.locals { s with heap := h, toks := tk } its (fun m' n' => SubL keep n' ∧ J r (i + 1) m' n') s₃ → UnrEndW h₀ env.locals { s with heap := h, toks := tk } its (fun m' n' => SubL keep n' ∧ ItemsRest prog w A E h₀ env target body Q s ws keep (r.mapIdx fun k b => f (i + (k + 1)) b) m' n') s₃ := by
      rintro ⟨h', tk', m', news', e1, F', N', off, hk', hj'⟩
      refine ⟨h', tk', m', news', e1, F', N', off, hk', ?_⟩
      rw [e]
      exact items_inv f J turn done r (i + 1) m' news' hj' hk'
    cases fl with
    | ret v => exact p
    | brk => exact p
    | next => exact fin p
    | cont => exact fin p
theorem enumItems_idx : ∀ (vs : List Value) (a : Nat), enumItems a vs = vs.mapIdx fun k b => Itm.pair (fun t => .int ((a + k : Nat) : Int) t) b
  | [], _ => rfl
  | v :: r, a => by
    rw [List.mapIdx_cons]
    show Itm.pair _ v :: enumItems (a + 1) r = _
    rw [enumItems_idx r (a + 1)]
    congr 2
    funext k b
    congr 1
    funext t
    congr 1
    congr 1
    omega
/-- a loop over enumerate(a list of the ledger) -/
theorem loop_enum {elts : List PySem.Expr} {k : Nat} {pos : Pos} {l : Addr} {vs : List Value} {n : Nat} (hh : A.handled = none) (F : Fr h₀ env.locals s.heap m₀) (N : News h₀ env.locals s.heap news) (hm : (l, listOf vs.toArray n) ∈ news)
    (J : List Value → Nat → (Str → Option Value) → Led → Prop) (start : J vs 0 m₀ news)
    (turn : ∀ v r i m₁ news₁ T t h tk its, J (v :: r) i m₁ news₁ → (l, listOf vs.toArray n) ∈ news₁ → IsTup h T #[.int i t, v] → (∃ I o1 o2, its = [(I + 1, o1), (I, o2)] ∧ o1.cls = .type "enumerate" ∧ o2.cls = .type "list_iterator") → Fr h₀ env.locals h m₁ → News h₀ env.locals h (its ++ news₁) →
      wpAny (model prog w) A (assign (.Tuple elts k pos) env (.ref T)) (fun _ s₂ => wpAny (model prog w) A (execs body env) (UnrPostW h₀ env.locals { s with heap := h, toks := tk } its (fun m' n' => SubL [(l, listOf vs.toArray n)] n' ∧ J r (i + 1) m' n') Q) E s₂) E { s with heap := h, toks := tk })
    (done : ∀ i m₁ news₁ h tk, J [] i m₁ news₁ → (l, listOf vs.toArray n) ∈ news₁ → Fr h₀ env.locals h m₁ → News h₀ env.locals h news₁ → Q .next { s with heap := h, toks := tk }) :
    wpAny (model prog w) A (call (.type "enumerate") [.ref l]) (fun xv s₁ => wpAny (model prog w) A (pyIter xv) (fun it s₂ => TurnsAt prog w A h₀ env (.Tuple elts k pos) body Q E it s₂) E s₁) E s := by
  refine ktu_enum hh F N hm rfl rfl (enumItems_idx vs 0) fun I hI => ?_
  have T := items_inv (prog := prog) (w := w) (A := A) (E := E) (s := s) (env := env) (h₀ := h₀) (target := .Tuple elts k pos) (body := body) (Q := Q) (ws := [(I + 1, "enumerate"), (I, "list_iterator")]) (keep := [(l, listOf vs.toArray n)]) (fun i b => Itm.pair (fun t => .int ((i : Nat) : Int) t) b) J ?_ ?_ vs 0 m₀ news start ⟨hm, trivial⟩
  · exact T
  · intro b r i m₁ news₁ v h tk its hj hk hv hits F N
    obtain ⟨T, t, rfl, hT⟩ := hv
    refine turn b r i m₁ news₁ T t h tk its hj (hk _ List.mem_cons_self) hT ?_ F N
    obtain _ | ⟨⟨a, o1⟩, _ | ⟨⟨b, o2⟩, _ | ⟨c, its⟩⟩⟩ := its
    · exact hits.elim
    · exact hits.2.elim
    · obtain ⟨⟨e1, c1⟩, ⟨e2, c2⟩, _⟩ := hits
      dsimp only at e1 e2
      subst e1 e2
      exact ⟨_, o1, o2, rfl, c1, c2⟩
    · exact hits.2.2.elim
  · intro i m₁ news₁ h tk hj hk
    exact done i m₁ news₁ h tk hj (hk _ List.mem_cons_self)
/-- a loop over a range -/
theorem loop_range {x : Str} {r : Addr} {b : Int} {t u v : Tok} {n : Nat} (hh : A.handled = none) (F : Fr h₀ env.locals s.heap m₀) (N : News h₀ env.locals s.heap news) (hr : IsRange s.heap r 0 b 1 t u v) (hsm : Builtin.Range.small 0 b 1 = true) (hn : Builtin.Range.rangeSize 0 b 1 = ((n : Nat) : Int))
    (J : Nat → (Str → Option Value) → Led → Prop) (start : J 0 m₀ news)
    (turn : ∀ i m₁ news₁ t h tk I o, i < n → J i m₁ news₁ → (∀ p ∈ news₁, p.1 ≠ I) → Fr h₀ env.locals h (fun y => if y = x then some (.int i t) else m₁ y) → News h₀ env.locals h ((I, o) :: news₁) →
      wpAny (model prog w) A (execs body env) (UnrPost h₀ env.locals { s with heap := h, toks := tk } I o (fun m' n' => J (i + 1) m' n') Q) E { s with heap := h, toks := tk })
    (done : ∀ m₁ news₁ h tk, J n m₁ news₁ → Fr h₀ env.locals h m₁ → News h₀ env.locals h news₁ → Q .next { s with heap := h, toks := tk }) :
    wpAny (model prog w) A (pyIter (.ref r)) (fun it s₂ => LoopAtV prog w A h₀ env x body Q E it s₂) E s := by
  refine wpAny_pyIter_range hr hsm ?_
  have hz : @LT.lt Nat _ env.locals s.heap.objs.size := F.ns.lt
  have hlt : ∀ p ∈ news, @LT.lt Nat _ p.1 s.heap.objs.size := fun p hp => Heap.lt_size (N p hp).1
  refine ⟨s.heap.objs.size, [s.heap.objs.size], [s.heap.objs.size], n, fun i v => ∃ t, v = .int (0 + (i : Int)) t, _, m₀, news, J, rfl, LCg.range_walks hh 0 n, ?_, ?_, ?_, ?_, F.push _, (fun p hp => ⟨Heap.get?_push_of_some _ (N p hp).1, (N p hp).2⟩), start, ?_, ?_⟩
  · intro hm
    rw [List.mem_singleton.mp hm] at hz
    exact Nat.lt_irrefl _ hz
  · intro b hb
    rw [List.mem_singleton.mp hb]
    exact next_is_new F
  · intro p hp hI
    have := hlt p hp
    rw [List.mem_singleton.mp hI] at this
    exact Nat.lt_irrefl _ this
  · show IsRangeIter _ _ _ _ _
    rw [hn]
    simpa using Heap.get?_push_size _ rfl
  · rintro i v m₁ news₁ s₁ own ⟨h1, tk1, rfl⟩ hin ⟨t', rfl⟩ hJ hoff hown hget hall hst F₁ N₁
    rw [Int.zero_add] at F₁
    have hI₀ : h₀.get? s.heap.objs.size = none := next_is_new F
    obtain ⟨o, ho⟩ : ∃ o, h1.get? s.heap.objs.size = some o := ⟨_, hst⟩
    have hmem := hall _ (List.mem_singleton.mpr rfl) hI₀ o ho
    have hoff' : ∀ p ∈ news₁, p.1 ≠ s.heap.objs.size := fun p hp e => hoff p hp (List.mem_singleton.mpr e)
    have N₂ : News h₀ env.locals h1 ((s.heap.objs.size, o) :: news₁) := fun p hp => by
      rcases List.mem_cons.mp hp with rfl | hp
      · exact N₁ _ (List.mem_append_left _ hmem)
      · exact N₁ _ (List.mem_append_right _ hp)
    refine wpAny_mono (turn i m₁ news₁ t' h1 tk1 _ o hin hJ hoff' F₁ N₂) (fun f s₂ p => ?_) fun _ _ e => e
    have fin : UnrEnd h₀ env.locals { s with heap := h1, toks := tk1 } s.heap.objs.size o (fun m' n' => J (i + 1) m' n') s₂ → LoopStepU h₀ env.locals [s.heap.objs.size] own (J (i + 1)) { s with heap := h1, toks := tk1 } .next s₂ := by
      rintro ⟨h', tk', m', news', e, F', N', off, hj⟩
      refine ⟨rfl, h', tk', m', news', e, F', fun p hp => ?_, fun p hp hI => off p hp (List.mem_singleton.mp hI), hj⟩
      rcases List.mem_append.mp hp with hp | hp
      · have e1 := List.mem_singleton.mp (hown p hp)
        have e2 := hget p hp
        obtain ⟨pa, po⟩ := p
        dsimp only at e1 e2
        subst e1
        obtain rfl : o = po := Option.some.inj (ho.symm.trans e2)
        exact N' _ List.mem_cons_self
      · exact N' _ (List.mem_cons_of_mem _ hp)
    cases f with
    | ret v => exact .ret p
    | brk => exact .brk p
    | next => exact .next (fin p)
    | cont => exact .cont (fin p)
  · rintro h' tk m' news' F' N' _ hJ
    exact done m' news' h' tk hJ F' N'
end
end Mine
namespace Mine
section
variable {prog : Program} {w : World} {A : Around} {E : Value → Shared → Prop} {s : Shared} {h₀ : Heap} {L : Addr} {m : Str → Option Value} {news : Led}
theorem extend_up {D b : Addr} {vals us : List Value} {n n2 : Nat} {news' : Led} {Q : Value → Shared → Prop} (F : Fr h₀ L s.heap m) (N : News h₀ L s.heap news) (hb : (b, listOf us.toArray n2) ∈ news) (hne : us ≠ [])
    (U : Upd D (listOf vals.toArray n) (listOf (vals ++ us).toArray (n + 1)) news news') (hz : vals.length + us.length ≤ 1000)
    (h : ∀ h', Fr h₀ L h' m → News h₀ L h' news' → Q .none { s with heap := h' }) : wpAny (model prog w) A (call (.builtin "list.extend") [.ref D, .ref b]) Q E s := by
  have e : 1000 ≤ sizeLine := by decide
  refine kl_extend F N hb (l := vals ++ us) (by simp) (by simpa using hne) U ?_ (by simp; omega) (by simp; omega) h
  simp [Builtin.List.listTooLong]
  intro _
  omega
theorem extend_tup {D b : Addr} {vals us : List Value} {n : Nat} {news' : Led} {Q : Value → Shared → Prop} (F : Fr h₀ L s.heap m) (N : News h₀ L s.heap news) (hb : (b, tupO us) ∈ news) (hne : us ≠ [])
    (U : Upd D (listOf vals.toArray n) (listOf (vals ++ us).toArray (n + 1)) news news') (hz : vals.length + us.length ≤ 1000)
    (h : ∀ h', Fr h₀ L h' m → News h₀ L h' news' → Q .none { s with heap := h' }) : wpAny (model prog w) A (call (.builtin "list.extend") [.ref D, .ref b]) Q E s := by
  have e : 1000 ≤ sizeLine := by decide
  refine kup_extend F N hb (l := vals ++ us) (by simp) (by simpa using hne) U ?_ (by simp; omega) (by simp; omega) h
  simp [Builtin.List.listTooLong]
  intro _
  omega
theorem eq_same {a b : Value} {d : PyData} {as bs : List Addr} {Q : Value → Shared → Prop} (ra : Reads s.heap a d as) (rb : Reads s.heap b d bs) (hd : SeqAt.shaped d = true) (hu : A.units + 64 < cLine) (h : Q (.bool true) s) : wpAny (model prog w) A (compareOp .Eq a b) Q E s :=
  eq_dataH ra rb hd hd hu (by rw [SeqAt.eqv_refl d (SeqAt.canLay_of_shaped hd)]; exact h)
theorem ne_same {a b : Value} {d : PyData} {as bs : List Addr} {Q : Value → Shared → Prop} (ra : Reads s.heap a d as) (rb : Reads s.heap b d bs) (hd : SeqAt.shaped d = true) (hu : A.units + 64 < cLine) (h : Q (.bool false) s) : wpAny (model prog w) A (compareOp .NotEq a b) Q E s :=
  ne_dataH ra rb hd hd hu (by rw [SeqAt.eqv_refl d (SeqAt.canLay_of_shaped hd)]; exact h)
noncomputable def rowD (r : Str × Str) : PyData := .tuple [.str r.1, .str r.2]
theorem reads_rows {h : Heap} {led : Led} {refs : List Value} {rs : List (Str × Str)} (hr : RowsIn led refs rs) (N : ∀ p ∈ led, h.get? p.1 = some p.2) : ∃ as, ReadsAll h refs (rs.map rowD) as := by
  induction hr with
  | nil => exact ⟨_, .nil⟩
  | cons hm _ ih =>
    obtain ⟨as, ih⟩ := ih
    exact ⟨_, .cons (reads_tuple_at (N _ hm) rfl rfl (.cons (.str _ _) (.cons (.str _ _) .nil))) ih⟩
theorem reads_strs {h : Heap} {vals : List Value} {ns : List Str} (hs : StrsAre vals ns) : ∃ as, ReadsAll h vals (ns.map PyData.str) as := by
  induction hs with
  | nil => exact ⟨_, .nil⟩
  | cons a u _ ih =>
    obtain ⟨as, ih⟩ := ih
    exact ⟨_, .cons (.str _ _) ih⟩
noncomputable def RowsOk (rs : List (Str × Str)) : Prop := ∀ r ∈ rs, PyData.strOk r.1 = true ∧ PyData.strOk r.2 = true
theorem lay_rows : ∀ {rs : List (Str × Str)}, RowsOk rs → PyData.canLayAll0 (rs.map rowD) = true ∧ PyData.depthAll (rs.map rowD) ≤ 4
  | [], _ => ⟨rfl, by decide⟩
  | r :: rs, h => by
    have ih := lay_rows fun x hx => h x (.tail _ hx)
    have hr := h r (.head _)
    have e := ih.2
    simp only [List.map_cons, rowD, PyData.canLayAll0, PyData.canLay0, PyData.depthAll, PyData.depth, hr.1, hr.2, ih.1, Bool.and_self, true_and]
    omega
theorem lay_strs : ∀ {ns : List Str}, (∀ n ∈ ns, PyData.strOk n = true) → PyData.canLayAll0 (ns.map PyData.str) = true ∧ PyData.depthAll (ns.map PyData.str) ≤ 4
  | [], _ => ⟨rfl, by decide⟩
  | r :: rs, h => by
    have ih := lay_strs fun x hx => h x (.tail _ hx)
    have hr := h r (.head _)
    have e := ih.2
    simp only [List.map_cons, PyData.canLayAll0, PyData.canLay0, PyData.depthAll, PyData.depth, hr, ih.1, Bool.and_self, true_and]
    omega
theorem shaped_told {x : Str} {ds : List PyData} (hx : PyData.strOk x = true) (h : PyData.canLayAll0 ds = true ∧ PyData.depthAll ds ≤ 4) : SeqAt.shaped (.tuple [.str x, .tuple ds]) = true := by
  have e := h.2
  refine Bool.and_eq_true_iff.mpr ⟨?_, decide_eq_true ?_⟩
  · simp only [PyData.canLay0, PyData.canLayAll0, hx, h.1, Bool.and_self]
  · simp only [PyData.depth, PyData.depthAll]
    omega
theorem shaped_list {ds : List PyData} (h : PyData.canLayAll0 ds = true ∧ PyData.depthAll ds ≤ 4) : SeqAt.shaped (.list ds) = true := by
  have e := h.2
  refine Bool.and_eq_true_iff.mpr ⟨?_, decide_eq_true ?_⟩
  · simp only [PyData.canLay0, h.1]
  · simp only [PyData.depth]
    omega
end
end Mine
theorem Mine.kNoneC13 : True := by
  k_with_none
  w_top off
  exact trivial
end C13
section C14
open PySem PySem.W PySem.Calls PyProof.Rows PyProof.V PySem.Spec
set_option linter.unusedSimpArgs false
set_option maxRecDepth 100000
set_option maxHeartbeats 400000
namespace Mine
/-- the mode's number and the name's number that an int of the script stands for -/
noncomputable def kOf (x : Int) : Nat := (Int.fmod x 4).toNat
noncomputable def jOf (x : Int) : Nat := (Int.fmod (Int.fdiv x 4) 3).toNat
noncomputable def name3 (j : Nat) : Str := match j with | 0 => Str.ofString "ALPHA" | 1 => Str.ofString "BETA-1" | _ => Str.ofString "G7"
noncomputable abbrev prOf (x : Int) : Nat × Str := (kOf x, name3 (jOf x))
noncomputable def rowsP (cs : List (Nat × Str)) : List (Str × Str) := cs.map fun c => (mode4 c.1, c.2)
noncomputable def denseP (cs : List (Nat × Str)) : List Str := cs.flatMap fun c => [word4 c.1, c.2]
noncomputable def lastP (l : Str) : List (Nat × Str) → Str
  | [] => l
  | (k, _) :: r => lastP (word4 k) r
noncomputable def sparseP (l : Str) : List (Nat × Str) → List Str
  | [] => []
  | (k, n) :: r => (bif word4 k == l then [n] else [word4 k, n]) ++ sparseP (word4 k) r
theorem rowsP_snoc (cs : List (Nat × Str)) (c : Nat × Str) : rowsP (cs ++ [c]) = rowsP cs ++ [(mode4 c.1, c.2)] := by
  unfold rowsP
  rw [List.map_append]
  rfl
theorem denseP_snoc (cs : List (Nat × Str)) (c : Nat × Str) : denseP (cs ++ [c]) = denseP cs ++ [word4 c.1, c.2] := by
  unfold denseP
  rw [List.flatMap_append]
  simp
theorem lastP_snoc : ∀ (cs : List (Nat × Str)) (l : Str) (c : Nat × Str), lastP l (cs ++ [c]) = word4 c.1
  | [], _, _ => rfl
  | (k, n) :: cs, l, c => lastP_snoc cs (word4 k) c
theorem sparseP_snoc : ∀ (cs : List (Nat × Str)) (l : Str) (c : Nat × Str), sparseP l (cs ++ [c]) = sparseP l cs ++ (bif word4 c.1 == lastP l cs then [c.2] else [word4 c.1, c.2])
  | [], _, (k, n) => by simp [sparseP, lastP]
  | (k, n) :: cs, l, c => by
    show _ ++ sparseP (word4 k) (cs ++ [c]) = _ ++ sparseP (word4 k) cs ++ _
    rw [sparseP_snoc cs (word4 k) c, List.append_assoc]
    rfl
theorem denseP_len : ∀ cs : List (Nat × Str), (denseP cs).length = 2 * cs.length
  | [] => rfl
  | c :: cs => by
    show ([word4 c.1, c.2] ++ denseP cs).length = _
    rw [List.length_append, denseP_len cs, List.length_cons, List.length_cons, List.length_cons, List.length_nil]
    omega
theorem sparseP_len : ∀ (cs : List (Nat × Str)) (l : Str), (sparseP l cs).length ≤ 2 * cs.length
  | [], _ => Nat.le_refl _
  | (k, n) :: cs, l => by
    show ((bif word4 k == l then [n] else [word4 k, n]) ++ sparseP (word4 k) cs).length ≤ _
    have := sparseP_len cs (word4 k)
    rw [List.length_append, List.length_cons]
    cases word4 k == l
    · show 2 + _ ≤ _; omega
    · show 1 + _ ≤ _; omega
theorem enum_list : Value.type "enumerate" ≠ Value.type "list" := fun e => by
  injection e with e
  exact absurd e (by decide)
theorem iter_list : Value.type "list_iterator" ≠ Value.type "list" := fun e => by
  injection e with e
  exact absurd e (by decide)
theorem tup_list : Value.type "tuple" ≠ Value.type "list" := fun e => by
  injection e with e
  exact absurd e (by decide)
theorem tup_enum : Value.type "tuple" ≠ Value.type "enumerate" := fun e => by
  injection e with e
  exact absurd e (by decide)
theorem tup_iter : Value.type "tuple" ≠ Value.type "list_iterator" := fun e => by
  injection e with e
  exact absurd e (by decide)
/-- the law's frame in its first loop -/
noncomputable def fr_law (la : Value) (nm md wd nu ati : Option Value) (sl dl rl cl : Addr) (sc : Value) : Str → Option Value := fun y =>
  if y = Str.ofString "last" then some la else if y = Str.ofString "name" then nm else if y = Str.ofString "mode" then md else if y = Str.ofString "word" then wd else if y = Str.ofString "number" then nu else if y = Str.ofString "at" then ati else
  if y = Str.ofString "sparse" then some (.ref sl) else if y = Str.ofString "dense" then some (.ref dl) else if y = Str.ofString "rows" then some (.ref rl) else if y = Str.ofString "chosen" then some (.ref cl) else [(Str.ofString "script", sc)].reverse.lookup y
theorem fr_law_next {la la' : Value} {nm md wd nu ati : Option Value} {n' m' w' u' a' : Value} {sl dl rl cl : Addr} {sc : Value} :
    (fun y => if y = Str.ofString "last" then some la' else if y = Str.ofString "name" then some n' else if y = Str.ofString "mode" then some m' else if y = Str.ofString "word" then some w' else if y = Str.ofString "number" then some u' else if y = Str.ofString "at" then some a' else fr_law la nm md wd nu ati sl dl rl cl sc y) =
    fr_law la' (some n') (some m') (some w') (some u') (some a') sl dl rl cl sc := by
  funext y
  unfold fr_law
  by_cases h1 : y = Str.ofString "last"
  · simp only [if_pos h1]
  · by_cases h2 : y = Str.ofString "name"
    · simp only [if_neg h1, if_pos h2]
    · by_cases h3 : y = Str.ofString "mode"
      · simp only [if_neg h1, if_neg h2, if_pos h3]
      · by_cases h4 : y = Str.ofString "word"
        · simp only [if_neg h1, if_neg h2, if_neg h3, if_pos h4]
        · by_cases h5 : y = Str.ofString "number"
          · simp only [if_neg h1, if_neg h2, if_neg h3, if_neg h4, if_pos h5]
          · by_cases h6 : y = Str.ofString "at"
            · simp only [if_neg h1, if_neg h2, if_neg h3, if_neg h4, if_neg h5, if_pos h6]
            · simp only [if_neg h1, if_neg h2, if_neg h3, if_neg h4, if_neg h5, if_neg h6]
theorem lookup_one {a x : Str} {u : Value} (h : (x == a) = false) : [(a, u)].reverse.lookup x = none := by
  show List.lookup x [(a, u)] = none
  rw [List.lookup_cons, h]
  rfl
theorem fr_law_start {la : Value} {sl dl rl cl : Addr} {sc : Value} :
    (fun y => if y = Str.ofString "last" then some la else if y = Str.ofString "sparse" then some (.ref sl) else if y = Str.ofString "dense" then some (.ref dl) else if y = Str.ofString "rows" then some (.ref rl) else if y = Str.ofString "chosen" then some (.ref cl) else [(Str.ofString "script", sc)].reverse.lookup y) =
    fr_law la none none none none none sl dl rl cl sc := by
  funext y
  unfold fr_law
  have all : ∀ x ∈ [Str.ofString "name", Str.ofString "mode", Str.ofString "word", Str.ofString "number", Str.ofString "at"], x ≠ Str.ofString "sparse" ∧ x ≠ Str.ofString "dense" ∧ x ≠ Str.ofString "rows" ∧ x ≠ Str.ofString "chosen" ∧ (x == Str.ofString "script") = false := by decide +kernel
  by_cases h1 : y = Str.ofString "last"
  · simp only [if_pos h1]
  · simp only [if_neg h1]
    by_cases hy : y ∈ [Str.ofString "name", Str.ofString "mode", Str.ofString "word", Str.ofString "number", Str.ofString "at"]
    · obtain ⟨a1, a2, a3, a4, a5⟩ := all y hy
      simp only [if_neg a1, if_neg a2, if_neg a3, if_neg a4, lookup_one a5, ite_self]
    · simp only [List.mem_cons, List.not_mem_nil, or_false, not_or] at hy
      obtain ⟨b1, b2, b3, b4, b5⟩ := hy
      simp only [if_neg b1, if_neg b2, if_neg b3, if_neg b4, if_neg b5]
theorem ne_cls {h₀ h : Heap} {L a b : Addr} {o o' : Obj} {led : Led} (N : News h₀ L h led) (h1 : (a, o) ∈ led) (h2 : (b, o') ∈ led) (hc : o.cls ≠ o'.cls) : @Ne Nat a b := fun e => by
  obtain rfl : a = b := e
  exact hc (congrArg Obj.cls (Option.some.inj ((N _ h1).1.symm.trans (N _ h2).1)))
noncomputable def TupL (tups : Led) : Prop := ∀ p ∈ tups, p.2.cls = .type "tuple"
theorem tupL_ne {h₀ h : Heap} {L b : Addr} {o' : Obj} {led tups : Led} (N : News h₀ L h led) (hs : ∀ p ∈ tups, p ∈ led) (ht : TupL tups) (h2 : (b, o') ∈ led) (hc : Value.type "tuple" ≠ o'.cls) : ∀ p ∈ tups, p.1 ≠ b := fun p hp =>
  ne_cls N (hs p hp) h2 (by rw [ht p hp]; exact hc)
/-- the law's first loop: what holds between the turns -/
noncomputable def Turn1 (ns : List Int) (cl sl dl rl : Addr) (sc : Value) (ws : List Value) (tab : Obj) (r : List Value) (_i : Nat) (m : Str → Option Value) (n : Led) : Prop :=
  ∃ dn rm nm md wd nu ati ul refs nr dvals nd svals nsv tups, ns = dn ++ rm ∧ IntsAre r rm ∧ RowsIn tups refs (rowsP (dn.map prOf)) ∧ StrsAre dvals (Str.ofString "OPEN" :: denseP (dn.map prOf)) ∧ StrsAre svals (Str.ofString "OPEN" :: sparseP (Str.ofString "") (dn.map prOf)) ∧ TupL tups ∧
    m = fr_law (.str (lastP (Str.ofString "") (dn.map prOf)) ul) nm md wd nu ati sl dl rl cl sc ∧
    n = (sl, listOf svals.toArray nsv) :: (dl, listOf dvals.toArray nd) :: (rl, listOf refs.toArray nr) :: (tups ++ [(cl, listOf ws.toArray 0), (310, tab)])
theorem fmod_lt {x m : Int} (hm : 0 < m) : 0 ≤ Int.fmod x m ∧ Int.fmod x m < m := by
  rw [Int.fmod_eq_emod_of_nonneg x (Int.le_of_lt hm)]
  exact ⟨Int.emod_nonneg x (Int.ne_of_gt hm), Int.emod_lt_of_pos x hm⟩
theorem four_of {k : Int} (h0 : 0 ≤ k) (h4 : k < 4) : k = 0 ∨ k = 1 ∨ k = 2 ∨ k = 3 := by omega
section
variable {prog : Program} {w : World} {A : Around} {E : Value → Shared → Prop} {s : Shared} {h₀ : Heap} {L : Addr} {m : Str → Option Value} {news : Led} {P : Params}
/-- the law's own table of the modes -/
theorem modes_item {value slice : PySem.Expr} {x : Int} {u : Tok} {Q : Value → Shared → Prop} (F : Fr h₀ L s.heap m) (X : (Mine.base.heap_1 P).In h₀)
    (h : ∀ a t t', IsTup s.heap a #[.str (word4 (kOf x)) t, .str (mode4 (kOf x)) t'] → Q (.ref a) s)
    (hs : ∀ k : Int, subscripted slice false (.ref 303) (.int k u) = operate [.ref 303, .int k u] (getItem (.ref 303) (.int k u)) := by intro _; with_unfolding_all rfl) :
    wpAny (model prog w) A (subscriptTail value slice (.ref 303) (.int (Int.fmod x 4) u)) Q E s := by
  have b := fmod_lt (x := x) (m := 4) (by decide)
  unfold kOf at h
  generalize Int.fmod x 4 = k at b h ⊢
  have X' := X.keeps F.keep
  have hs' := hs k
  rcases four_of b.1 b.2 with rfl | rfl | rfl | rfl
  · exact topTup_K (l := [.ref 299, .ref 300, .ref 301, .ref 302]) F X rfl (by decide) (by decide) (j := 0) rfl rfl (h 299 _ _ (tupK X' (l := [.str (word4 0) _, .str (mode4 0) _]) rfl)) hs'
  · exact topTup_K (l := [.ref 299, .ref 300, .ref 301, .ref 302]) F X rfl (by decide) (by decide) (j := 1) rfl rfl (h 300 _ _ (tupK X' (l := [.str (word4 1) _, .str (mode4 1) _]) rfl)) hs'
  · exact topTup_K (l := [.ref 299, .ref 300, .ref 301, .ref 302]) F X rfl (by decide) (by decide) (j := 2) rfl rfl (h 301 _ _ (tupK X' (l := [.str (word4 2) _, .str (mode4 2) _]) rfl)) hs'
  · exact topTup_K (l := [.ref 299, .ref 300, .ref 301, .ref 302]) F X rfl (by decide) (by decide) (j := 3) rfl rfl (h 302 _ _ (tupK X' (l := [.str (word4 3) _, .str (mode4 3) _]) rfl)) hs'
theorem three_of {k : Int} (h0 : 0 ≤ k) (h4 : k < 3) : k = 0 ∨ k = 1 ∨ k = 2 := by omega
theorem name_item {value slice : PySem.Expr} {D : Addr} {x : Int} {u t1 t2 t3 : Tok} {Q : Value → Shared → Prop} (N : News h₀ L s.heap news) (hm : (D, tupO [.str (Str.ofString "ALPHA") t1, .str (Str.ofString "BETA-1") t2, .str (Str.ofString "G7") t3]) ∈ news)
    (h : ∀ t, Q (.str (name3 (jOf x)) t) s)
    (hs : ∀ k : Int, subscripted slice false (.ref D) (.int k u) = operate [.ref D, .int k u] (getItem (.ref D) (.int k u)) := by intro _; with_unfolding_all rfl) :
    wpAny (model prog w) A (subscriptTail value slice (.ref D) (.int (Int.fmod (Int.fdiv x 4) 3) u)) Q E s := by
  have b := fmod_lt (x := Int.fdiv x 4) (m := 3) (by decide)
  unfold jOf at h
  generalize Int.fmod (Int.fdiv x 4) 3 = k at b h ⊢
  have ht : IsTup s.heap D [.str (Str.ofString "ALPHA") t1, .str (Str.ofString "BETA-1") t2, .str (Str.ofString "G7") t3].toArray := ⟨_, (N _ hm).1, rfl, _, rfl⟩
  have hs' := hs k
  rcases three_of b.1 b.2 with rfl | rfl | rfl
  · exact item_tupleT ht (by decide) (by decide) (j := 0) rfl rfl (h _) hs'
  · exact item_tupleT ht (by decide) (by decide) (j := 1) rfl rfl (h _) hs'
  · exact item_tupleT ht (by decide) (by decide) (j := 2) rfl rfl (h _) hs'
end
end Mine
theorem Mine.hnl_of {ws : List Value} {l : List Int} {n : Int} (_ : IntsAre ws (List.map (fun k' => if k' < 0 then -k' else k') (List.take 12 l) ++ [n, 3])) : (List.map (fun k' => if k' < 0 then -k' else k') (List.take 12 l) ++ [n, 3]).length ≤ 14 := by
  simp only [List.length_append, List.length_map, List.length_take, List.length_cons, List.length_nil]
  omega
namespace Mine
theorem strs_app {vs us : List Value} {ys zs : List Str} (h : StrsAre vs ys) (h' : StrsAre us zs) : StrsAre (vs ++ us) (ys ++ zs) := by
  induction h with
  | nil => exact h'
  | cons a u _ ih => exact .cons a u ih
theorem off_news {h₀ h : Heap} {L : Addr} {its news' : Led} {o1 o2 : Obj} {I J : Addr} (e : its = [(J, o1), (I, o2)]) (c1 : o1.cls = .type "enumerate") (c2 : o2.cls = .type "list_iterator") (N : News h₀ L h (its ++ news')) (hc : ∀ p ∈ news', p.2.cls ≠ .type "enumerate" ∧ p.2.cls ≠ .type "list_iterator") :
    ∀ p ∈ news', ∀ q ∈ its, p.1 ≠ q.1 := fun p hp q hq => by
  refine ne_cls N (List.mem_append_right _ hp) (List.mem_append_left _ hq) ?_
  subst e
  rcases List.mem_cons.mp hq with rfl | hq
  · rw [c1]; exact (hc p hp).1
  · rw [List.mem_singleton.mp hq, c2]; exact (hc p hp).2
theorem turn1_sub {b2 b1 a d x1 x2 s dd r : Addr × Obj} {tups base : Led} : ∀ p ∈ [x1, x2] ++ (s :: dd :: r :: ((a :: tups) ++ base)), p ∈ b2 :: b1 :: a :: d :: x1 :: x2 :: s :: dd :: r :: (tups ++ base) := fun p hp => by
  simp only [List.mem_append, List.mem_cons, List.not_mem_nil, or_false] at hp ⊢
  rcases hp with (h | h) | h | h | h | (h | h) | h <;> simp only [h, true_or, or_true]
theorem none_ne {n : String} : Value.none ≠ Value.type n := nofun
theorem list_enum : Value.type "list" ≠ Value.type "enumerate" := Ne.symm enum_list
theorem list_iter : Value.type "list" ≠ Value.type "list_iterator" := Ne.symm iter_list
theorem turn1_end {h₀ h' : Heap} {s : Shared} {tk' : Nat} {L I a b1 b2 d cl sl dl rl : Addr} {o1 o2 ob1 ob2 od : Obj} {x : Int} {t1 t2 t4 : Tok} {sc nu ati la : Value} {nm md wd nu0 ati0 : Option Value} {ns dn rm : List Int} {ws r refs dvals svals us : List Value} {nr nd nsv i : Nat} {tups : Led}
    (F : Fr h₀ L h' (fun y => if y = Str.ofString "last" then some (.str (word4 (kOf x)) t1) else if y = Str.ofString "name" then some (.str (name3 (jOf x)) t4) else if y = Str.ofString "mode" then some (.str (mode4 (kOf x)) t2) else if y = Str.ofString "word" then some (.str (word4 (kOf x)) t1) else if y = Str.ofString "number" then some nu else if y = Str.ofString "at" then some ati else fr_law la nm md wd nu0 ati0 sl dl rl cl sc y))
    (N : News h₀ L h' ((b2, ob2) :: (b1, ob1) :: (a, tupO [.str (mode4 (kOf x)) t2, .str (name3 (jOf x)) t4]) :: (d, od) :: (I + 1, o1) :: (I, o2) :: (sl, listOf (svals ++ us).toArray (nsv + 1)) :: (dl, listOf (dvals ++ [Value.str (word4 (kOf x)) t1, .str (name3 (jOf x)) t4]).toArray (nd + 1)) :: (rl, listOf (refs ++ [Value.ref a]).toArray (nr + 1)) :: (tups ++ [(cl, listOf ws.toArray 0), (310, tabObj #[])])))
    (hns : ns = dn ++ x :: rm) (hr : IntsAre r rm) (hrw : RowsIn tups refs (rowsP (dn.map prOf))) (hdv : StrsAre dvals (Str.ofString "OPEN" :: denseP (dn.map prOf))) (hsv : StrsAre svals (Str.ofString "OPEN" :: sparseP (Str.ofString "") (dn.map prOf)))
    (hus : StrsAre us (bif word4 (kOf x) == lastP (Str.ofString "") (dn.map prOf) then [name3 (jOf x)] else [word4 (kOf x), name3 (jOf x)])) (htp : TupL tups) (c1 : o1.cls = .type "enumerate") (c2 : o2.cls = .type "list_iterator") :
    UnrEndW h₀ L s [(I + 1, o1), (I, o2)] (fun m' n' => SubL [(cl, listOf ws.toArray 0)] n' ∧ Turn1 ns cl sl dl rl sc ws (tabObj #[]) r (i + 1) m' n') { s with heap := h', toks := tk' } := by
  have N2 : News h₀ L h' ([(I + 1, o1), (I, o2)] ++ ((sl, listOf (svals ++ us).toArray (nsv + 1)) :: (dl, listOf (dvals ++ [Value.str (word4 (kOf x)) t1, .str (name3 (jOf x)) t4]).toArray (nd + 1)) :: (rl, listOf (refs ++ [Value.ref a]).toArray (nr + 1)) :: (((a, tupO [.str (mode4 (kOf x)) t2, .str (name3 (jOf x)) t4]) :: tups) ++ [(cl, listOf ws.toArray 0), (310, tabObj #[])]))) := fun p hp => N p (turn1_sub p hp)
  have htp2 : TupL ((a, tupO [.str (mode4 (kOf x)) t2, .str (name3 (jOf x)) t4]) :: tups) := fun p hp => by
    rcases List.mem_cons.mp hp with rfl | hp
    · rfl
    · exact htp p hp
  refine ⟨h', tk', _, _, rfl, F, N2, off_news rfl c1 c2 N2 (fun p hp => ?_), ⟨by simp, trivial⟩, dn ++ [x], rm, some (.str (name3 (jOf x)) t4), some (.str (mode4 (kOf x)) t2), some (.str (word4 (kOf x)) t1), some nu, some ati, t1, _, _, _, _, _, _, _, ?_, hr, ?_, ?_, ?_, htp2, ?_, rfl⟩
  · rcases List.mem_cons.mp hp with rfl | hp
    · exact ⟨list_enum, list_iter⟩
    rcases List.mem_cons.mp hp with rfl | hp
    · exact ⟨list_enum, list_iter⟩
    rcases List.mem_cons.mp hp with rfl | hp
    · exact ⟨list_enum, list_iter⟩
    rcases List.mem_append.mp hp with hp | hp
    · rw [htp2 p hp]
      exact ⟨tup_enum, tup_iter⟩
    rcases List.mem_cons.mp hp with rfl | hp
    · exact ⟨list_enum, list_iter⟩
    rw [List.mem_singleton.mp hp]
    exact ⟨none_ne, none_ne⟩
  · rw [hns, List.append_assoc]
    rfl
  · rw [List.map_append, List.map_cons, List.map_nil, rowsP_snoc]
    exact (hrw.mono fun _ hp => List.mem_cons_of_mem _ hp).push List.mem_cons_self
  · rw [List.map_append, List.map_cons, List.map_nil, denseP_snoc, ← List.cons_append]
    exact strs_app hdv (.cons _ _ (.cons _ _ .nil))
  · rw [List.map_append, List.map_cons, List.map_nil, sparseP_snoc, ← List.cons_append]
    exact strs_app hsv hus
  · rw [List.map_append, List.map_cons, List.map_nil, lastP_snoc]
    exact fr_law_next
end Mine
namespace Mine
theorem strs_get {vs : List Value} {ys : List Str} (h : StrsAre vs ys) : ∀ {i : Nat} {a : Value}, vs[i]? = some a → ∃ wo t, a = .str wo t ∧ ys[i]? = some wo := by
  induction h with
  | nil => intro i a e; simp at e
  | cons x t _ ih =>
    intro i a e
    cases i with
    | zero =>
      have e' : Value.str x t = a := by simpa using e
      exact ⟨x, t, e'.symm, rfl⟩
    | succ i => exact ih (by simpa using e)
end Mine
namespace Mine
theorem TokAt.mono {w : World} {led led' : Led} {v : Value} {kd wo : Str} (h : TokAt w led v kd wo) (s : ∀ p ∈ led, p ∈ led') : TokAt w led' v kd wo := by
  obtain ⟨t, dt, a, b, c, d, u1, u2, p, q, e, h1, h2⟩ := h
  exact ⟨t, dt, a, b, c, d, u1, u2, p, q, e, s _ h1, s _ h2⟩
theorem toks_push {w : World} {toks toks' : Led} {ys : List Value} {words : List Str} {i : Nat} {y : Value} {W wo : Str} (hys : ∀ (k : Nat) wo, k < i → words[k]? = some wo → ∃ v, ys[k]? = some v ∧ TokAt w toks v W wo) (hl : ys.length = i) (hwo : words[i]? = some wo)
    (hs : ∀ p ∈ toks, p ∈ toks') (ht : TokAt w toks' y W wo) : ∀ (k : Nat) wo, k < i + 1 → words[k]? = some wo → ∃ v, (ys ++ [y])[k]? = some v ∧ TokAt w toks' v W wo := fun k wo' hk e => by
  by_cases h : k < i
  · obtain ⟨v, h1, h2⟩ := hys k wo' h e
    exact ⟨v, by rw [List.getElem?_append_left (by omega)]; exact h1, h2.mono hs⟩
  · obtain rfl : k = i := by omega
    obtain rfl : wo = wo' := Option.some.inj (hwo.symm.trans e)
    exact ⟨y, by rw [List.getElem?_append_right (by omega), hl]; simp, ht⟩
theorem Apart.more {its news : Led} {a : Addr} {o : Obj} (ap : Apart its news) (h : ∀ p ∈ its, @Ne Nat p.1 a) : Apart its ((a, o) :: news) := fun p hp q hq => by
  rcases List.mem_cons.mp hq with rfl | hq
  · exact h p hp
  · exact ap p hp q hq
theorem step_sub {x d D e it C Da : Addr × Obj} {r : Led} : ∀ p ∈ [e, it, C, Da] ++ (x :: d :: D :: r), p ∈ x :: d :: D :: e :: it :: C :: Da :: r := fun p hp => by
  simp only [List.mem_append, List.mem_cons, List.not_mem_nil, or_false] at hp ⊢
  rcases hp with (h | h | h | h) | h | h | h | h <;> simp only [h, true_or, or_true]
theorem step_end {h₀ h' : Heap} {L : Addr} {m : Str → Option Value} {w : World} {s : Shared} {tk' : Nat} {e it C Da x d D : Addr} {oe oi oC oD : Obj} {k1 k2 k3 k4 u1 u2 : Tok} {p q : Value} {toks base : Led} {ys : List Value} {words : List Str} {i : Nat} {W wo : Str} {tup : Obj}
    (F : Fr h₀ L h' m) (N : News h₀ L h' ((x, instObj 294 d) :: (d, dictOf (tokEs w k1 k2 k3 k4 (.str W u1) (.str wo u2) p q) 4) :: (D, tup) :: (e, oe) :: (it, oi) :: (C, oC) :: (Da, oD) :: (toks ++ base))) (ap : Apart [(e, oe), (it, oi), (C, oC), (Da, oD)] (toks ++ base))
    (hx : ∀ b ∈ [(e, oe), (it, oi), (C, oC), (Da, oD)], @Ne Nat b.1 x) (hd : ∀ b ∈ [(e, oe), (it, oi), (C, oC), (Da, oD)], @Ne Nat b.1 d) (hD : ∀ b ∈ [(e, oe), (it, oi), (C, oC), (Da, oD)], @Ne Nat b.1 D)
    (hyl : ys.length = i) (hys : ∀ (k : Nat) wo, k < i → words[k]? = some wo → ∃ v, ys[k]? = some v ∧ TokAt w toks v W wo) (hwo : words[i]? = some wo) :
    CEnd h₀ L m s [(e, oe), (it, oi), (C, oC), (Da, oD)] (fun y n => ∃ toks, n = toks ++ base ∧ (ys ++ [y]).length = i + 1 ∧ ∀ (k : Nat) wo, k < i + 1 → words[k]? = some wo → ∃ v, (ys ++ [y])[k]? = some v ∧ TokAt w toks v W wo) (.ref x) { s with heap := h', toks := tk' } :=
  ⟨h', tk', (x, _) :: (d, _) :: (D, tup) :: (toks ++ base), rfl, F, fun p hp => N p (step_sub p hp), ((ap.more hD).more hd).more hx, (x, _) :: (d, _) :: (D, tup) :: toks, rfl, by rw [List.length_append, hyl]; rfl,
    toks_push hys hyl hwo (fun p hp => .tail _ (.tail _ (.tail _ hp))) ⟨x, d, k1, k2, k3, k4, u1, u2, p, q, rfl, .head _, .tail _ (.head _)⟩⟩
end Mine
namespace Mine
section
variable {prog : Program} {w : World} {A : Around} {E : Value → Shared → Prop} {s : Shared} {h₀ : Heap} {L : Addr} {m : Str → Option Value} {news : Led}
theorem add_mem {a b : Addr} {vals us : List Value} {n n2 : Nat} {Q : Value → Shared → Prop} (F : Fr h₀ L s.heap m) (N : News h₀ L s.heap news) (h1 : (a, listOf vals.toArray n) ∈ news) (h2 : (b, listOf us.toArray n2) ∈ news) (hz : vals.length + us.length ≤ 1000)
    (h : ∀ D h', Fr h₀ L h' m → News h₀ L h' ((D, listOf (vals ++ us).toArray 0) :: news) → (∀ p ∈ news, p.1 < D) → Q (.ref D) { s with heap := h' }) :
    wpAny (model prog w) A (binaryOp .Add (.ref a) (.ref b)) Q E s := by
  have e : 1000 ≤ sizeLine := by decide
  refine add_arrays F N (isList_mem N h1) (isList_mem N h2) (fun h' F' N' => h _ h' F' N' fun p hp => Heap.lt_size (N p hp).1) ?_
  rw [List.size_toArray, List.size_toArray]
  omega
theorem slice_mem {l : Addr} {value slice : PySem.Expr} {vals us : List Value} {n : Nat} {vl vu : Value} {lo hi : Option Int} {Q : Value → Shared → Prop} (F : Fr h₀ L s.heap m) (N : News h₀ L s.heap news) (hm : (l, listOf vals.toArray n) ∈ news) (pl : IsPart vl lo) (pu : IsPart vu hi)
    (e : kms_pick vals lo hi = us) (hz : vals.length ≤ 1000)
    (h : ∀ D h', Fr h₀ L h' m → News h₀ L h' ((D, listOf us.toArray 0) :: news) → (∀ p ∈ news, p.1 < D) → Q (.ref D) { s with heap := h' })
    (hs : subscripted slice false (.ref l) (.ref s.heap.objs.size) = operate [.ref s.heap.objs.size, .ref l] (getItem (.ref l) (.ref s.heap.objs.size))) (ht : ∀ r, letTemporaryGo value (.ref l) r = pure ()) :
    wpAny (model prog w) A (subscriptTail value slice (.ref l) (.ref s.heap.objs.size)) Q E { s with heap := s.heap.push { cls := .type "slice", data := .fields #[vl, vu, .none] } } := by
  have e2 : 1000 ≤ sizeLine := by decide
  exact kms_slice_lit F N (isList_mem N hm) pl pu e h hs ht (by rw [List.size_toArray]; omega)
end
end Mine
namespace Mine
theorem Does.pick {w : World} {mean : ExcName → Option Value} {mg mb : Str → Option Value} {c : Nat} {f : Addr} {args : List Value} {news : Led} {Ret Ret' : Value → Led → Prop} (D : Does w mean mg mb c f args news Ret) (h : ∀ r n, Ret r n → ∃ n', (∀ p ∈ n', p ∈ n) ∧ Ret' r n') : Does w mean mg mb c f args news Ret' :=
  fun _ _ _ _ _ _ _ _ _ _ _ _ _ _ _ _ _ _ B F X N T hk hd hu ap ret => D _ _ _ _ _ _ _ _ _ _ _ _ _ _ _ _ _ _ B F X N T hk hd hu ap fun r n h' tk' F' N' ap' hr => by
    obtain ⟨n', hs, hr'⟩ := h r n hr
    refine ret r n' h' tk' F' (fun p hp => N' p ?_) (fun p hp q hq => ap' p hp q (hs q hq)) hr'
    rcases List.mem_append.mp hp with hp | hp
    · exact List.mem_append_left _ hp
    · exact List.mem_append_right _ (hs p hp)
/-- the tokens that stand for words -/
noncomputable def toksOf (words : List Str) : List (Str × Str) := words.map (fun x => (Str.ofString "word", x)) ++ [(Str.ofString "sign", Str.ofString ".")]
theorem made_sub {n x dx tl sl x1 d1 Da : Addr × Obj} {toks base : Led} : ∀ p ∈ dx :: x :: (base ++ (tl :: x1 :: d1 :: toks)), p ∈ n :: x :: dx :: tl :: sl :: x1 :: d1 :: Da :: (toks ++ base) := fun p hp => by
  simp only [List.mem_append, List.mem_cons] at hp ⊢
  rcases hp with h | h | h | h | h | h | h <;> simp only [h, true_or, or_true]
theorem reader_made {w : World} {h₀ h : Heap} {L x dx nd tl sl x1 d1 Da : Addr} {on osl oD : Obj} {k1 k2 k3 t0 a1 a2 a3 a4 u1 u2 : Tok} {p q : Value} {toks base : Led} {ys vals : List Value} {words : List Str}
    (N : News h₀ L h ((nd, on) :: (x, instObj 264 dx) :: (dx, dictOf (rdrEs w k1 k2 k3 tl 0 t0 nd) 3) :: (tl, listOf (ys ++ [Value.ref x1]).toArray 0) :: (sl, osl) :: (x1, instObj 294 d1) :: (d1, dictOf (tokEs w a1 a2 a3 a4 (.str (Str.ofString "sign") u1) (.str (Str.ofString ".") u2) p q) 4) :: (Da, oD) :: (toks ++ base)))
    (l9 : tl < dx ∧ sl < dx ∧ x1 < dx ∧ d1 < dx ∧ Da < dx ∧ AllLt dx (toks ++ base)) (l2 : dx < x) (hyl : ys.length = vals.length) (hv : StrsAre vals words) (hw1 : words.length ≤ 90)
    (hys : ∀ (k : Nat) wo, k < vals.length → words[k]? = some wo → ∃ v, ys[k]? = some v ∧ TokAt w toks v (Str.ofString "word") wo) :
    ∃ (R : RN) (rest : Led), R.x = x ∧ Rd R ((R.x, instObj 264 R.dx) :: (base ++ rest)) ∧ Toks w R ((R.x, instObj 264 R.dx) :: (base ++ rest)) (toksOf words) ∧ News h₀ L h (RL w R ((R.x, instObj 264 R.dx) :: (base ++ rest)) 0 t0) := by
  refine ⟨⟨x, dx, tl, nd, k1, k2, k3, ys ++ [Value.ref x1], 0⟩, (tl, listOf (ys ++ [Value.ref x1]).toArray 0) :: (x1, instObj 294 d1) :: (d1, dictOf (tokEs w a1 a2 a3 a4 (.str (Str.ofString "sign") u1) (.str (Str.ofString ".") u2) p q) 4) :: toks, rfl, ⟨.head _, .tail _ (List.mem_append_right _ (.head _)), ?_, ?_⟩, ?_, fun p hp => N p (made_sub p hp)⟩
  · show (ys ++ [Value.ref x1]).length < 100
    rw [List.length_append, hyl, strs_len hv]
    show words.length + 1 < 100
    omega
  · intro b hb
    have la := allLt_all l9.2.2.2.2.2
    rcases List.mem_cons.mp hb with rfl | hb
    · exact Nat.ne_of_gt l2
    rcases List.mem_append.mp hb with hb | hb
    · exact Nat.ne_of_lt (la b (List.mem_append_right _ hb))
    rcases List.mem_cons.mp hb with rfl | hb
    · exact Nat.ne_of_lt l9.1
    rcases List.mem_cons.mp hb with rfl | hb
    · exact Nat.ne_of_lt l9.2.2.1
    rcases List.mem_cons.mp hb with rfl | hb
    · exact Nat.ne_of_lt l9.2.2.2.1
    exact Nat.ne_of_lt (la b (List.mem_append_left _ hb))
  · intro k kw e
    have hvl := strs_len hv
    by_cases hk : k < words.length
    · have e1 : (toksOf words)[k]? = some (Str.ofString "word", words[k]) := by
        unfold toksOf
        rw [List.getElem?_append_left (by rw [List.length_map]; exact hk), List.getElem?_map, List.getElem?_eq_getElem hk]
        rfl
      obtain rfl := Option.some.inj (e1.symm.trans e)
      obtain ⟨v, h1, h2⟩ := hys k words[k] (by omega) (List.getElem?_eq_getElem hk)
      refine ⟨v, ?_, h2.mono fun b hb => .tail _ (List.mem_append_right _ (.tail _ (.tail _ (.tail _ hb))))⟩
      show (ys ++ [Value.ref x1])[k]? = some v
      rw [List.getElem?_append_left (by omega)]
      exact h1
    · have hlt := (List.getElem?_eq_some_iff.mp e).1
      have hz : (toksOf words).length = words.length + 1 := by
        unfold toksOf
        rw [List.length_append, List.length_map]
        rfl
      obtain rfl : k = words.length := by omega
      have e1 : (toksOf words)[words.length]? = some (Str.ofString "sign", Str.ofString ".") := by
        unfold toksOf
        rw [List.getElem?_append_right (by rw [List.length_map]; exact Nat.le_refl _), List.length_map, Nat.sub_self]
        rfl
      obtain rfl := Option.some.inj (e1.symm.trans e)
      refine ⟨.ref x1, ?_, x1, d1, a1, a2, a3, a4, u1, u2, p, q, rfl, .tail _ (List.mem_append_right _ (.tail _ (.head _))), .tail _ (List.mem_append_right _ (.tail _ (.tail _ (.head _))))⟩
      show (ys ++ [Value.ref x1])[words.length]? = some (Value.ref x1)
      rw [List.getElem?_append_right (by omega), hyl, hvl, Nat.sub_self]
      rfl
section
variable {M : Model} {A : Around} {E : Value → Shared → Prop} {s : Shared} {K : Frag} {h₀ : Heap} {L L' f : Addr} {m mg mb : Str → Option Value} {p : Program} {loose : List Str} {mean : ExcName → Option Value} {x qual : Str} {pos : Pos} {v cd : Value} {scope : Scope} {cl : List (Str × Addr)} {Q : Value → Shared → Prop}
theorem ld_fn (F : Fr h₀ L s.heap m) (X : K.In h₀) (T : Top p loose mean mg mb h₀) (e : nsIn K mainGlobals x = some (some v)) (h : Q v s) (hk : scope.kind = .function) (hx : scope.names.lookup x = some .globalImplicit) (hd : (x == ("__debug__" : Str)) = false) :
    wpAny M A (eval (.Name x pos) (envX qual scope L' f cd cl)) Q E s :=
  Name_function_global hk hx (loadGlobal_global (env := envX qual scope L' f cd cl) (T.keeps F.keep).g (mg_of X T.g e) h) hd
end
end Mine
namespace Mine
theorem read_sub {x y a b c : Addr × Obj} {rest new : Led} : ∀ p ∈ [a, b, c] ++ new, p ∈ x :: y :: a :: b :: c :: (rest ++ new) := fun p hp => by
  simp only [List.mem_append, List.mem_cons, List.not_mem_nil, or_false] at hp ⊢
  rcases hp with (h | h | h) | h <;> simp only [h, true_or, or_true]
end Mine
theorem Mine.kNoneC14 : True := by
  k_with_none
  w_top off
  exact trivial
end C14
section C15
open PySem PySem.W PySem.Calls PyProof.Rows
set_option linter.unusedSimpArgs false
set_option maxRecDepth 100000
set_option maxHeartbeats 4000000
local macro_rules | `(tactic| walk_at $s:str) => `(tactic| k_extra $s)
local macro_rules | `(tactic| k_room) => `(tactic| ktr_room)
local macro_rules | `(tactic| k_mem) => `(tactic| first | assumption | exact List.mem_cons_self | (refine List.mem_cons_of_mem _ ?_; k_mem))
local macro_rules | `(tactic| k_ne) => `(tactic| first | assumption | exact Ne.symm (by assumption) | exact Nat.ne_of_gt (by assumption) | exact Nat.ne_of_lt (by assumption))
local macro_rules | `(tactic| k_all) => `(tactic| first | assumption | exact Mine.all_RL (by first | assumption | exact Nat.ne_of_gt (by assumption)) (by first | exact Mine.off_lt (by assumption) | exact Mine.off_ne (by assumption)))
local macro_rules | `(tactic| k_all) => `(tactic| first | (refine List.forall_mem_append.mpr ⟨?_, ?_⟩; (focus assumption); k_all))
namespace Mine
section
variable {w : World} {mean : ExcName → Option Value} {mg mb : Str → Option Value} {R : RN} {rest : Led} {ti : Tok} {i : Int} {j : Nat} {tj : Tok} {v : Value}
noncomputable abbrev lamP (q1 q2 : Pos) : Arguments := { posonlyargs := [], args := [{ arg := Str.ofString "reader", annotation := none, pos := q1 }, { arg := Str.ofString "body", annotation := none, pos := q2 }], vararg := none, kwonlyargs := [], kw_defaults := [], kwarg := none, defaults := [] }
noncomputable abbrev lamB (fn : Str) (p1 p2 p3 p4 : Pos) : PySem.Expr := .Call (.Name fn p1) [.Name (Str.ofString "reader") p2, .Name (Str.ofString "body") p3] [] p4
noncomputable abbrev lamS (fn : Str) : Scope := { kind := .function, names := [(Str.ofString "reader", .local), (Str.ofString "body", .local), (fn, .globalImplicit)], isGenerator := false, isCoroutine := false }
theorem listcomp_of {M : Model} {A : Around} {E : Value → Shared → Prop} {s : Shared} {env : Env} {elt iter target : PySem.Expr} {scope : Scope} {cl : List (Str × Addr)} {pos : Pos} {Q : Value → Shared → Prop}
    (hclos : closureFor scope env = pure cl) (hkind : scope.kind = .function) (hnames : ∀ y ∈ scope.names, y.2 = .local → scope.names.lookup y.1 = some .local) (hs : ∀ x, foldedSetIterable iter env x = pure x)
    (h : wpAny M A (eval iter env) (fun x s₁ => wpAny M A (pyIter x) (fun it s₂ => wpAny M A (newList []) (fun acc s₃ =>
      wpAny M A (newFunctionEnv scope env.globals cl [] env.qual none .none (some env)) (fun cenv s₄ =>
        codeAny M A (.compStart (.ListComp elt [⟨target, iter, [], 0⟩] scope pos) 0 it acc { cenv with scope := relabel scope env }) (compPost M A E none Q acc cenv.locals) s₄) E s₃) E s₂) E s₁) E s) :
    wpAny M A (eval (.ListComp elt [⟨target, iter, [], 0⟩] scope pos) env) Q E s := by
  rw [eval_ListComp]
  exact wpAny_comprehension_free (use := none) rfl hs hclos hkind hnames h
theorem lamS_cell {fn : Str} : ∀ x ∈ (lamS fn).names, x.2 ≠ .cell := fun x hx => by
  simp only [List.mem_cons, List.not_mem_nil, or_false] at hx
  rcases hx with rfl | rfl | rfl <;> simp
theorem lamS_loc {fn : Str} {a b : Value} : ∀ y ∈ [(Str.ofString "reader", a), (Str.ofString "body", b)], (lamS fn).names.lookup y.1 = some .local := fun y hy => by
  simp only [List.mem_cons, List.not_mem_nil, or_false] at hy
  rcases hy with rfl | rfl
  · rfl
  · rfl
theorem law_read_does {words : List Str} {vals : List Value} {nv : Nat} {fn qual : Str} {f wl lam c' : Addr} {q1 q2 p1 p2 p3 p4 : Pos} {pm ctv : Value} {oc : Obj} {fs : Array Value} {qt : Tok} {Told : Led → Addr → Prop} (hv : StrsAre vals words) (hw1 : words.length ≤ 90)
    (hoc : oc.data = .fields fs) (hq : fs[1]? = some (.str qual qt)) (hfn : nsIn (Mine.base.heap_1 w.params) mainGlobals fn = some (some (.ref f))) (hfk : (lamS fn).names.lookup fn = some .globalImplicit) (hfd : (fn == ("__debug__" : Str)) = false) (hff : keepIn (Mine.base.heap_1 w.params) (.ref f) = true)
    (DD : ∀ (R : RN) (rest : Led) (ti : Tok), Rd R rest → Toks w R rest (toksOf words) → Does w mean mg mb 12 f [.ref R.x, .none] (RL w R rest 0 ti) (fun r n => ∃ t ti' new, r = .ref t ∧ Told new t ∧ n = RL w R rest words.length ti' ++ new)) :
    Does w mean mg mb 16 308 [.ref wl, .ref lam] [(wl, listOf vals.toArray nv), (lam, kla_obj (Str.ofString "<lambda>") qual (lamP q1 q2) (lamB fn p1 p2 p3 p4) (lamS fn) [] pm c' ctv), (c', oc)] (fun r n => ∃ t new, r = .ref t ∧ Told new t ∧ n = [(wl, listOf vals.toArray nv), (lam, kla_obj (Str.ofString "<lambda>") qual (lamP q1 q2) (lamB fn p1 p2 p3 p4) (lamS fn) [] pm c' ctv), (c', oc)] ++ new) := by
  refine' Does.of [(Str.ofString "words", .ref wl), (Str.ofString "read", .ref lam)] ?hf ?hcd ?hb ?hl ?c1 ?c2 ?c3 ?c4 ?h
  case hf => exact rfl
  case hcd => exact rfl
  case hb =>
    exact fun s X => BindsTo.of_eq rfl
  case hl => exact locs rfl
  case c1 => exact rfl
  case c2 => exact rfl
  case c3 => exact rfl
  case c4 => decide
  intro dp un gd cn cs a ccd cl outer base L g L' s₁ F X N B T hK hR hU hLt
  revert X; k_fill; intro X
  k_with_none
  k_with "eval ListComp" => (k_here; k_dflt (refine Mine.listcomp_of (cl := []) (by with_unfolding_all rfl) (by rfl) (by decide) (by intro _; rfl) ?_))
  k_with "call type:enumerate" => (refine Mine.Hold.out ?_)
  k_steps
  unfold Hold
  refine comp_enum (vs := vals) (nv := nv) rfl (by k_asm) (by k_asm) (by k_mem) (by rw [strs_len hv]; exact Nat.le_trans hw1 (by decide)) (by decide) rfl (by rfl) (by rfl) (by decide)
    (fun i ys n => ∃ toks : Led, n = toks ++ [(wl, listOf vals.toArray nv), (lam, kla_obj (Str.ofString "<lambda>") qual (lamP q1 q2) (lamB fn p1 p2 p3 p4) (lamS fn) [] pm c' ctv), (c', oc)] ∧ ys.length = i ∧ ∀ (k : Nat) wo, k < i → words[k]? = some wo → ∃ v, ys[k]? = some v ∧ TokAt w toks v (Str.ofString "word") wo)
    ⟨[], rfl, rfl, fun _ _ h => absurd h (Nat.not_lt_zero _)⟩ (fun i ys n => ?_) ?step ?fin
  · rintro ⟨toks, rfl, _⟩
    exact List.mem_append_right _ (.head _)
  case step =>
    rintro i a t ys news₁ e oe it oi C oC Da m₂ h tk E' ha ⟨toks, rfl, hyl, hys⟩ hC hx hx₂ F1 N1 ap
    obtain ⟨wo, tw, rfl, hwo⟩ := strs_get hv ha
    k_with_none
    k_steps
    exact step_end (by k_asm) (by k_asm) ap (by repeat' (first | exact List.forall_mem_nil _ | refine List.forall_mem_cons.mpr ⟨neN (by dsimp only; omega), ?_⟩)) (by repeat' (first | exact List.forall_mem_nil _ | refine List.forall_mem_cons.mpr ⟨neN (by dsimp only; omega), ?_⟩)) (by repeat' (first | exact List.forall_mem_nil _ | refine List.forall_mem_cons.mpr ⟨neN (by dsimp only; omega), ?_⟩)) hyl hys hwo
  case fin =>
    rintro D h tk ys news' F1 N1 off ⟨toks, rfl, hyl, hys⟩
    have hyz : ys.length + 1 ≤ 1000 := by
      rw [hyl, strs_len hv]
      omega
    k_with_none
    k_with "binaryOp Add ref ref" => (k_here; k_dflt (refine' Mine.add_mem ?k1 ?k2 ?k3 ?k4 ?k5 ?_; (case k1 => k_asm); (case k2 => k_asm); (case k3 => k_mem); (case k4 => k_mem); (case k5 => assumption); k_whole); intro D' h' F' N' l1; (try k_lt l1); (try k_sweep))
    k_with "call ref" => (k_here; (with_reducible show wpAny _ _ (call (Value.ref 264) _) _ _ _); k_dflt (refine' call_cls ?k1 ?k2 ?k3 ?k4 ?k5 ?k6 ?_; (case k1 => k_asm); (case k2 => k_asm); (case k3 => k_asm); (case k4 => k_is); (case k5 => k_is); (case k6 => k_is); k_whole; intro x9 d9 h' F' N' l9 l2; (try k_lt l9); (try k_lt2 l2); (try k_sweep); k_enter))
    k_with "callWith ref" => (k_here; (with_reducible show wpAny _ _ (callWith _ (Value.ref lam) _ _ _) _ _ _); refine Mine.Hold.out ?_)
    k_steps
    unfold Hold
    rename_i F5 N5
    obtain ⟨R, rest, rfl, H, HT, N6⟩ := reader_made N5 l9 l2 hyl hv hw1 hys
    clear N5 l9 l2
    simp only [List.cons_append, List.nil_append] at N6 H HT
    have hvl := strs_len hv
    k_with_none
    k_with "callWith ref" => (k_here; (with_reducible show wpAny _ _ (callWith _ (Value.ref lam) _ _ _) _ _ _); k_dflt (refine' callWith_F ?k1 ?_; (case k1 => exact FnAt.of (by k_asm) (by k_mem)); k_whole))
    k_with "callWith ref" => (k_here; (with_reducible show wpAny _ _ (callWith _ (Value.ref f) _ _ _) _ _ _); k_dflt (refine' callWith_K ?k1 hff ?_; (case k1 => k_asm); k_whole))
    k_with "call ref" => (k_here; (with_reducible show wpAny _ _ (call (Value.ref lam) _) _ _ _); k_dflt (refine wpAny_call ?_; (refine' kla_code ?k1 ?k2 ?k3 ?k4 ?k5 ?kA ?kF ?kK ?k6 ?k7 ?k8 ?k9 ?kB ?_ ?c2 ?c3 ?c4 ?c5; (case kA => exact rfl); (case kF => exact rfl); (case kK => exact rfl); (case k1 => k_asm); (case k2 => k_asm); (case k3 => k_asm); (case k4 => k_asm); (case k5 => k_asm); (case k6 => k_mem); (case k7 => exact codeRec_news (by k_asm) (by k_mem) (by assumption) (by assumption)); (case k8 => k_room); (case k9 => exact rfl); (case c5 => exact Mine.lamS_cell); (case kB => exact Mine.lamS_loc); (case c2 => exact rfl); (case c3 => exact rfl); (case c4 => exact rfl); k_whole; intro g' L' h' FG' F' N' B' X' T'; (try dsimp only); (try k_lift B'); (try k_fold))))
    k_with "eval Name" => (k_here; (with_reducible show wpAny _ _ (eval (PySem.Expr.Name fn _) _) _ _ _); k_dflt (refine' Mine.ld_fn ?k1 ?k2 ?k3 hfn ?_ ?k4 hfk hfd; (case k1 => k_asm); (case k2 => k_asm); (case k3 => k_asm); (case k4 => exact rfl); k_whole))
    k_with "call ref" => (k_here; (with_reducible show wpAny _ _ (call (Value.ref f) _) _ _ _); k_dflt (refine' Mine.Does.use (DD R _ _ H HT) ?k1 ?k2 ?k3 ?k4 ?kS ?k5 ?k6 ?k7 ?k8 ?kA ?_; (case k1 => k_asm); (case k2 => k_asm); (case k3 => k_asm); (case k4 => k_asm); (case kS => exact Mine.Split.nil); (case k5 => k_asm); (case k6 => first | exact rfl | assumption); (case k7 => ktr_room); (case k8 => ktr_units); (case kA => exact Mine.Apart.nil);  k_whole); intro r' n' h' tk' F' N' ap' hr'; (try k_sweep); obtain ⟨t9, ti9, new9, e1, hT9, e2⟩ := hr'; subst e1; subst e2; (all_goals (try simp only [List.nil_append, List.cons_append] at N')))
    k_with "call builtin:len" => (k_here; (with_reducible show wpAny _ _ (call (Value.builtin "len") [Value.ref _]) _ _ _); k_dflt (refine' Mine.len_mem ?k1 ?k2 ?k3 ?_; (case k1 => k_asm); (case k2 => k_mem); (case k3 => omega); k_whole))
    k_steps
    · exact BodyEnd.pick (by k_asm) (by k_asm) read_sub ⟨t9, new9, rfl, hT9, rfl⟩
    · exact absurd (congrArg Int.ofNat hvl.symm) (by assumption)
end
end Mine
theorem Mine.kNoneC15 : True := by
  k_with_none
  w_top off
  exact trivial
end C15
section P2
open PySem PySem.W PySem.Calls PyProof.Rows
set_option linter.unusedSimpArgs false
set_option maxRecDepth 100000
set_option maxHeartbeats 1000000
namespace Mine
noncomputable def NameOk (n : Str) : Prop := resv n = false ∧ n.length ≤ 1000
noncomputable def GOk (gs : List (Nat × List Str)) : Prop := ∀ g ∈ gs, g.1 < 4 ∧ 1 ≤ g.2.length ∧ ∀ n ∈ g.2, NameOk n
noncomputable def flatG (gs : List (Nat × List Str)) : List Str := gs.flatMap fun g => word4 g.1 :: g.2
theorem word4_res : ∀ k : Nat, resv (word4 k) = true
  | 0 => resv_words.1.1
  | 1 => resv_words.1.2.1
  | 2 => resv_words.1.2.2.1
  | _ + 3 => resv_words.1.2.2.2
theorem word4_len : ∀ k : Nat, (word4 k).length ≤ 1000
  | 0 => by decide +kernel
  | 1 => by decide +kernel
  | 2 => by decide +kernel
  | _ + 3 => by
    show (Str.ofString "EXTEND").length ≤ 1000
    decide +kernel
theorem word4_nil : ∀ k : Nat, (word4 k == Str.ofString "") = false
  | 0 => by decide +kernel
  | 1 => by decide +kernel
  | 2 => by decide +kernel
  | _ + 3 => by
    show (Str.ofString "EXTEND" == Str.ofString "") = false
    decide +kernel
theorem name3_ok : ∀ j : Nat, NameOk (name3 j)
  | 0 => ⟨resv_words.2.1, by decide +kernel⟩
  | 1 => ⟨resv_words.2.2.1, by decide +kernel⟩
  | _ + 2 => ⟨resv_words.2.2.2, by
    show (Str.ofString "G7").length ≤ 1000
    decide +kernel⟩
theorem name3_str : ∀ j : Nat, PyData.strOk (name3 j) = true
  | 0 => by decide +kernel
  | 1 => by decide +kernel
  | _ + 2 => by
    show PyData.strOk (Str.ofString "G7") = true
    decide +kernel
theorem mode4_str : ∀ k : Nat, PyData.strOk (mode4 k) = true
  | 0 => by decide +kernel
  | 1 => by decide +kernel
  | 2 => by decide +kernel
  | _ + 3 => by
    show PyData.strOk (Str.ofString "extend") = true
    decide +kernel
noncomputable abbrev wTok (x : Str) : Str × Str := (Str.ofString "word", x)
noncomputable abbrev sTok : Str × Str := (Str.ofString "sign", Str.ofString ".")
theorem sign_no (b : Bool) : ((Str.ofString "sign") == Str.ofString "word" && b) = false := by
  have : ((Str.ofString "sign") == Str.ofString "word") = false := by decide +kernel
  rw [this]
  rfl
theorem dot_len : (Str.ofString ".").length ≤ 1000 := by decide +kernel
theorem at_pre {α : Type} (pre : List α) (x : α) (r : List α) {p : Int} (hp : p = (pre.length : Int)) : (pre ++ x :: r)[p.toNat]? = some x := by
  subst hp
  rw [Int.toNat_natCast, List.getElem?_append_right (Nat.le_refl _), Nat.sub_self]
  rfl
theorem groups_of : ∀ (gs : List (Nat × List Str)) (pre : List (Str × Str)) (p : Int), p = (pre.length : Int) → GOk gs → Groups (pre ++ ((flatG gs).map wTok ++ [sTok])) p gs
  | [], pre, p, hp, _ => ⟨_, _, at_pre pre sTok [] hp, fun _ _ => sign_no _⟩
  | (k, ns) :: gs, pre, p, hp, hg => by
    obtain ⟨hk, hn, hno⟩ := hg (k, ns) (.head _)
    have hg' : GOk gs := fun g h => hg g (.tail _ h)
    have e : pre ++ ((flatG ((k, ns) :: gs)).map wTok ++ [sTok]) = pre ++ wTok (word4 k) :: (ns.map wTok ++ ((flatG gs).map wTok ++ [sTok])) := by
      unfold flatG
      rw [List.flatMap_cons, List.map_append, List.map_cons]
      simp only [List.append_assoc, List.cons_append]
    have e2 : pre ++ ((flatG ((k, ns) :: gs)).map wTok ++ [sTok]) = (pre ++ wTok (word4 k) :: ns.map wTok) ++ ((flatG gs).map wTok ++ [sTok]) := by
      rw [e]
      simp only [List.append_assoc, List.cons_append]
    have hl : (pre ++ wTok (word4 k) :: ns.map wTok).length = pre.length + 1 + ns.length := by
      rw [List.length_append, List.length_cons, List.length_map]
      omega
    refine ⟨hk, by rw [e]; exact at_pre pre _ _ hp, hn, fun j wo hj => ⟨?_, hno wo (List.mem_of_getElem? hj)⟩, ?_, ?_⟩
    · have hlt := (List.getElem?_eq_some_iff.mp hj).1
      have ht : (p + 1 + (j : Int)).toNat = pre.length + 1 + j := by omega
      rw [ht, e, List.getElem?_append_right (by omega)]
      have : pre.length + 1 + j - pre.length = j + 1 := by omega
      rw [this, List.getElem?_cons_succ, List.getElem?_append_left (by rw [List.length_map]; exact hlt), List.getElem?_map, hj]
      rfl
    · rw [e2]
      cases gs with
      | nil => exact ⟨_, _, at_pre _ sTok [] (by rw [hl]; omega), sign_no _, dot_len⟩
      | cons g gs =>
        obtain ⟨k2, ns2⟩ := g
        refine ⟨Str.ofString "word", word4 k2, ?_, by rw [word4_res, beq_self_eq_true]; rfl, word4_len k2⟩
        have e3 : (flatG ((k2, ns2) :: gs)).map wTok ++ [sTok] = wTok (word4 k2) :: ((ns2 ++ flatG gs).map wTok ++ [sTok]) := by
          unfold flatG
          rw [List.flatMap_cons]
          rfl
        rw [e3]
        exact at_pre _ _ _ (by rw [hl]; omega)
    · rw [e2]
      exact groups_of gs _ _ (by rw [hl]; omega) hg'
theorem lenOf_flat : ∀ gs : List (Nat × List Str), lenOf gs = (flatG gs).length
  | [] => rfl
  | (k, ns) :: gs => by
    have ih := lenOf_flat gs
    unfold lenOf flatG at *
    rw [List.map_cons, List.sum_cons, List.flatMap_cons, List.length_append, List.length_cons, ih]
    all_goals (dsimp only; omega)
/-- the pairs, grouped by equal modes that stand side by side -/
noncomputable def grp : List (Nat × Str) → List (Nat × List Str)
  | [] => []
  | (k, n) :: r => match grp r with
    | [] => [(k, [n])]
    | (k', ns) :: gs => bif k == k' then (k, n :: ns) :: gs else (k, [n]) :: (k', ns) :: gs
theorem grp_cons (k : Nat) (n : Str) (r : List (Nat × Str)) : grp ((k, n) :: r) = match grp r with
    | [] => [(k, [n])]
    | (k', ns) :: gs => bif k == k' then (k, n :: ns) :: gs else (k, [n]) :: (k', ns) :: gs := rfl
noncomputable def one (cs : List (Nat × Str)) : List (Nat × List Str) := cs.map fun c => (c.1, [c.2])
noncomputable def PairsOk (cs : List (Nat × Str)) : Prop := ∀ c ∈ cs, c.1 < 4 ∧ NameOk c.2
theorem flat_one : ∀ cs, flatG (one cs) = denseP cs
  | [] => rfl
  | c :: cs => by
    show word4 c.1 :: [c.2] ++ flatG (one cs) = [word4 c.1, c.2] ++ denseP cs
    rw [flat_one cs]
theorem rows_cons (g : Nat × List Str) (gs : List (Nat × List Str)) : rowsOf (g :: gs) = (g.2.map fun n => (mode4 g.1, n)) ++ rowsOf gs := by
  unfold rowsOf
  rw [List.flatMap_cons]
theorem rows_one : ∀ cs, rowsOf (one cs) = rowsP cs
  | [] => rfl
  | c :: cs => by
    show rowsOf ((c.1, [c.2]) :: one cs) = (mode4 c.1, c.2) :: rowsP cs
    rw [rows_cons, rows_one cs]
    rfl
theorem ok_one {cs : List (Nat × Str)} (h : PairsOk cs) : GOk (one cs) := fun g hg => by
  obtain ⟨c, hc, rfl⟩ := List.mem_map.mp hg
  refine ⟨(h c hc).1, Nat.le_refl _, fun n hn => ?_⟩
  rw [List.mem_singleton.mp hn]
  exact (h c hc).2
theorem rows_grp : ∀ cs, rowsOf (grp cs) = rowsP cs
  | [] => rfl
  | (k, n) :: cs => by
    have ih := rows_grp cs
    show rowsOf (grp ((k, n) :: cs)) = (mode4 k, n) :: rowsP cs
    rw [grp_cons]
    cases hg : grp cs with
    | nil =>
      rw [hg] at ih
      dsimp only
      rw [rows_cons, ih]
      rfl
    | cons g gs =>
      obtain ⟨k', ns⟩ := g
      rw [hg, rows_cons] at ih
      dsimp only at ih ⊢
      cases hk : k == k' with
      | true =>
        obtain rfl := eq_of_beq hk
        show rowsOf ((k, n :: ns) :: gs) = _
        rw [rows_cons, ← ih]
        rfl
      | false =>
        show rowsOf ((k, [n]) :: (k', ns) :: gs) = _
        rw [rows_cons, rows_cons, ← ih]
        rfl
theorem ok_grp : ∀ {cs : List (Nat × Str)}, PairsOk cs → GOk (grp cs)
  | [], _ => fun _ h => nomatch h
  | (k, n) :: cs, h => by
    have ih := ok_grp (cs := cs) fun c hc => h c (.tail _ hc)
    have h1 := h (k, n) (.head _)
    have hone : (k, [n]).1 < 4 ∧ 1 ≤ (k, [n]).2.length ∧ ∀ m ∈ (k, [n]).2, NameOk m := ⟨h1.1, Nat.le_refl _, fun m hm => by rw [List.mem_singleton.mp hm]; exact h1.2⟩
    rw [grp_cons]
    cases hg : grp cs with
    | nil =>
      intro g hm
      rw [List.mem_singleton.mp hm]
      exact hone
    | cons g gs =>
      obtain ⟨k', ns⟩ := g
      rw [hg] at ih
      dsimp only
      cases hk : k == k' with
      | true =>
        intro g hm
        rcases List.mem_cons.mp hm with rfl | hm
        · refine ⟨h1.1, Nat.succ_le_succ (Nat.zero_le _), fun m hm => ?_⟩
          rcases List.mem_cons.mp hm with rfl | hm
          · exact h1.2
          · exact (ih (k', ns) (.head _)).2.2 m hm
        · exact ih g (.tail _ hm)
      | false =>
        intro g hm
        rcases List.mem_cons.mp hm with rfl | hm
        · exact hone
        · exact ih g hm
theorem sparse_grp : ∀ {cs : List (Nat × Str)} (l : Str), PairsOk cs → sparseP l cs = match grp cs with | [] => [] | (k, ns) :: gs => (bif word4 k == l then [] else [word4 k]) ++ (ns ++ flatG gs)
  | [], _, _ => rfl
  | (k, n) :: cs, l, h => by
    have ih := sparse_grp (cs := cs) (word4 k) fun c hc => h c (.tail _ hc)
    have ok := ok_grp (cs := cs) fun c hc => h c (.tail _ hc)
    have h1 := h (k, n) (.head _)
    show (bif word4 k == l then [n] else [word4 k, n]) ++ sparseP (word4 k) cs = _
    rw [ih]
    rw [grp_cons]
    cases hg : grp cs with
    | nil =>
      dsimp only
      cases word4 k == l <;> rfl
    | cons g gs =>
      obtain ⟨k', ns⟩ := g
      rw [hg] at ok
      have hk' := (ok (k', ns) (.head _)).1
      dsimp only
      cases hk : k == k' with
      | true =>
        obtain rfl := eq_of_beq hk
        rw [beq_self_eq_true]
        show (bif word4 k == l then [n] else [word4 k, n]) ++ ([] ++ (ns ++ flatG gs)) = (bif word4 k == l then [] else [word4 k]) ++ (n :: ns ++ flatG gs)
        cases word4 k == l <;> rfl
      | false =>
        have hw : (word4 k' == word4 k) = false := by
          cases hw : word4 k' == word4 k with
          | false => rfl
          | true =>
            obtain rfl := word4_inj hk' h1.1 hw
            rw [beq_self_eq_true] at hk
            cases hk
        rw [hw]
        show (bif word4 k == l then [n] else [word4 k, n]) ++ ([word4 k'] ++ (ns ++ flatG gs)) = (bif word4 k == l then [] else [word4 k]) ++ ([n] ++ flatG ((k', ns) :: gs))
        have e : flatG ((k', ns) :: gs) = [word4 k'] ++ (ns ++ flatG gs) := by
          unfold flatG
          rw [List.flatMap_cons]
          rfl
        rw [e]
        cases word4 k == l <;> rfl
theorem flat_grp {cs : List (Nat × Str)} (h : PairsOk cs) : flatG (grp cs) = sparseP (Str.ofString "") cs := by
  rw [sparse_grp _ h]
  cases grp cs with
  | nil => rfl
  | cons g gs =>
    obtain ⟨k, ns⟩ := g
    show _ = (bif word4 k == Str.ofString "" then [] else [word4 k]) ++ (ns ++ flatG gs)
    rw [word4_nil]
    unfold flatG
    rw [List.flatMap_cons]
    rfl
theorem grp_ne {cs : List (Nat × Str)} (h : cs ≠ []) : grp cs ≠ [] := by
  cases cs with
  | nil => exact absurd rfl h
  | cons c cs =>
    obtain ⟨k, n⟩ := c
    rw [grp_cons]
    cases grp cs with
    | nil => simp
    | cons g gs =>
      dsimp only
      cases k == g.1 <;> simp
theorem pairs_ok (ns : List Int) : PairsOk (ns.map prOf) := fun c hc => by
  obtain ⟨x, _, rfl⟩ := List.mem_map.mp hc
  have := fmod_lt (x := x) (m := 4) (by decide)
  refine ⟨?_, name3_ok _⟩
  show (Int.fmod x 4).toNat < 4
  omega
theorem rows_ok (ns : List Int) : ∀ r ∈ rowsP (ns.map prOf), PyData.strOk r.1 = true ∧ PyData.strOk r.2 = true := fun r hr => by
  obtain ⟨c, hc, rfl⟩ := List.mem_map.mp hr
  obtain ⟨x, _, rfl⟩ := List.mem_map.mp hc
  exact ⟨mode4_str _, name3_str _⟩
theorem toks_open (gs : List (Nat × List Str)) : toksOf (Str.ofString "OPEN" :: flatG gs) = [wTok (Str.ofString "OPEN")] ++ ((flatG gs).map wTok ++ [sTok]) := rfl
theorem groups_open {gs : List (Nat × List Str)} (h : GOk gs) : Groups (toksOf (Str.ofString "OPEN" :: flatG gs)) (0 + 1) gs := by
  rw [toks_open]
  exact groups_of gs _ _ rfl h
end Mine
theorem Mine.kNoneP2 : True := by
  k_with_none
  w_top off
  exact trivial
end P2
section C16
open PySem PySem.W PySem.Calls PyProof.Rows
set_option linter.unusedSimpArgs false
set_option maxRecDepth 100000
set_option maxHeartbeats 1000000
namespace Mine
section
variable {w : World} {mean : ExcName → Option Value} {mg mb : Str → Option Value} {c : Nat} {f : Addr} {args : List Value} {news : Led} {Ret : Value → Led → Prop}
theorem Does.useP {dp un : Nat} {gd : Option (List Code)} {cn : Str} {cs : Scope} {a : Addr} {ccd : Value} {cl : List (Str × Addr)} {outer : List Env} {A₀ : Around} {base h₀ : Heap} {L : Addr} {m : Str → Option Value} {s : Shared} {Q E : Value → Shared → Prop} {all : Led} (ex : Led)
    (D : Does w mean mg mb c f args news Ret) (B : Below A₀ base outer h₀) (F : Fr h₀ L s.heap m) (X : (Mine.base.heap_1 w.params).In h₀) (N : News h₀ L s.heap all) (S : ∀ p ∈ ex ++ news, p ∈ all) (T : Top topProg LO mean mg mb h₀) (hk : cs.kind = .function)
    (hd : dp + c < recursionLimit) (hu : un + 8 * c < cLine) (ap : Apart ex news)
    (ret : ∀ r news' h' tk', Fr h₀ L h' m → News h₀ L h' (ex ++ news') → Apart ex news' → Ret r news' → Q r { s with heap := h', toks := tk' }) :
    wpAny (model PySem.Challenge.rw_pb0252_01.row.prog w) (ktrTop dp un gd cn cs L a ccd cl outer) (call (.ref f) args) Q E s := D _ _ _ _ _ _ _ _ _ _ _ _ _ _ _ _ _ _ B F X (fun p hp => N p (S p hp)) T hk hd hu ap ret
theorem Does.deep {c' : Nat} (D : Does w mean mg mb c f args news Ret) (h : c ≤ c') : Does w mean mg mb c' f args news Ret :=
  fun _ _ _ _ _ _ _ _ _ _ _ _ _ _ _ _ _ _ B F X N T hk hd hu ap ret => D _ _ _ _ _ _ _ _ _ _ _ _ _ _ _ _ _ _ B F X N T hk (by omega) (by omega) ap ret
end
/-- what read_open has told -/
noncomputable def ToldOpen (rs : List (Str × Str)) (new : Led) (t : Addr) : Prop := ∃ t2 u refs tups, RowsIn tups refs rs ∧ new = (t, tupO [.str (Str.ofString "open") u, .ref t2]) :: (t2, tupO refs) :: tups
noncomputable def ToldClose (ns : List Str) (new : Led) (t : Addr) : Prop := ∃ t2 u vals, StrsAre vals ns ∧ new = [(t, tupO [.str (Str.ofString "close") u, .ref t2]), (t2, tupO vals)]
section
variable {w : World} {mean : ExcName → Option Value} {mg mb : Str → Option Value}
theorem open_D {gs : List (Nat × List Str)} (hg : GOk gs) (hne : gs ≠ []) (hz : (rowsOf gs).length ≤ 1000) (R : RN) (rest : Led) (ti : Tok) (H : Rd R rest) (HT : Toks w R rest (toksOf (Str.ofString "OPEN" :: flatG gs))) :
    Does w mean mg mb 12 40 [.ref R.x, .none] (RL w R rest 0 ti) (fun r n => ∃ t ti' new, r = .ref t ∧ ToldOpen (rowsOf gs) new t ∧ n = RL w R rest (Str.ofString "OPEN" :: flatG gs).length ti' ++ new) := by
  refine (read_open_does (gs := gs) H HT (Int.le_refl 0) rfl (groups_open hg) hne hz).pick fun r n h => ?_
  obtain ⟨t, t2, u, refs, tups, ti', hr, hrw, hn⟩ := h
  subst hr hn
  have e : (0 : Int) + 1 + (lenOf gs : Nat) = ((Str.ofString "OPEN" :: flatG gs).length : Nat) := by
    rw [lenOf_flat, List.length_cons]
    omega
  rw [e]
  refine ⟨_, fun p hp => ?_, t, ti', _, rfl, ⟨t2, u, refs, tups, hrw, rfl⟩, rfl⟩
  simp only [List.mem_append, List.mem_cons] at hp ⊢
  rcases hp with h | h | h | h <;> simp only [h, true_or, or_true]
theorem close_at {ns : List Str} {k : Nat} {wo : Str} (h : ns[k]? = some wo) : (toksOf (Str.ofString "CLOSE" :: ns))[(0 + 1 + (k : Int)).toNat]? = some (wTok wo) := by
  have e : (0 + 1 + (k : Int)).toNat = k + 1 := by omega
  have hlt := (List.getElem?_eq_some_iff.mp h).1
  rw [e]
  show (wTok (Str.ofString "CLOSE") :: (ns.map wTok ++ [sTok]))[k + 1]? = _
  rw [List.getElem?_cons_succ, List.getElem?_append_left (by rw [List.length_map]; exact hlt), List.getElem?_map, h]
  rfl
theorem close_D {ns : List Str} (hne : 1 ≤ ns.length) (hok : ∀ n ∈ ns, NameOk n) (R : RN) (rest : Led) (ti : Tok) (H : Rd R rest) (HT : Toks w R rest (toksOf (Str.ofString "CLOSE" :: ns))) :
    Does w mean mg mb 12 47 [.ref R.x, .none] (RL w R rest 0 ti) (fun r n => ∃ t ti' new, r = .ref t ∧ ToldClose ns new t ∧ n = RL w R rest (Str.ofString "CLOSE" :: ns).length ti' ++ new) := by
  have hend : (toksOf (Str.ofString "CLOSE" :: ns))[(0 + 1 + (ns.length : Int)).toNat]? = some sTok := by
    have e : (0 + 1 + (ns.length : Int)).toNat = ns.length + 1 := by omega
    rw [e]
    show (wTok (Str.ofString "CLOSE") :: (ns.map wTok ++ [sTok]))[ns.length + 1]? = _
    rw [List.getElem?_cons_succ, List.getElem?_append_right (by rw [List.length_map]; exact Nat.le_refl _), List.length_map, Nat.sub_self]
    rfl
  refine Does.pick (Does.deep (c' := 12) (read_close_does (ns := ns) H HT (Int.le_refl 0) hne rfl (fun k wo h => ⟨close_at h, hok wo (List.mem_of_getElem? h)⟩) ⟨_, _, hend, sign_no _, dot_len⟩) (by decide)) fun r n h => ?_
  obtain ⟨t, t2, u, vals, ti', hr, hs, hn⟩ := h
  subst hr hn
  have e : (0 : Int) + 1 + (ns.length : Nat) = ((Str.ofString "CLOSE" :: ns).length : Nat) := by
    rw [List.length_cons]
    omega
  rw [e]
  refine ⟨_, fun p hp => ?_, t, ti', _, rfl, ⟨t2, u, vals, hs, rfl⟩, rfl⟩
  simp only [List.mem_append, List.mem_cons, List.not_mem_nil, or_false] at hp ⊢
  rcases hp with (h | h) | h | h <;> simp only [h, true_or, or_true]
end
end Mine
namespace Mine
theorem law_sub1 {s d r c t : Addr × Obj} {tups : Led} : ∀ p ∈ t :: s :: d :: r :: tups, p ∈ s :: d :: r :: (tups ++ [c, t]) := fun p hp => by
  simp only [List.mem_append, List.mem_cons, List.not_mem_nil, or_false] at hp ⊢
  rcases hp with h | h | h | h | h <;> simp only [h, true_or, or_true]
theorem law_ne {l : List Int} {n : Int} {dn : List Int} (h : List.map (fun k' : Int => if k' < 0 then -k' else k') (List.take 12 l) ++ [n, 3] = dn) : dn.map prOf ≠ [] := by
  subst h
  simp
theorem one_ne {cs : List (Nat × Str)} (h : cs ≠ []) : one cs ≠ [] := by
  cases cs with
  | nil => exact absurd rfl h
  | cons c cs => simp [one]
theorem law_sub2 {a s r d f c x y : Addr × Obj} {tups tups9 : Led} : ∀ p ∈ a :: s :: r :: d :: x :: y :: (tups ++ tups9), p ∈ a :: s :: r :: (tups ++ d :: f :: c :: x :: y :: tups9) := fun p hp => by
  simp only [List.mem_append, List.mem_cons] at hp ⊢
  rcases hp with h | h | h | h | h | h | h | h <;> simp only [h, true_or, or_true]
theorem news_sub {h₀ h : Heap} {L : Addr} {all n : Led} (N : News h₀ L h all) (s : ∀ p ∈ n, p ∈ all) : News h₀ L h n := fun p hp => N p (s p hp)
theorem law_apart {tb sl rl dl f c : Addr} {o1 o2 o3 o4 o5 o6 : Obj} {tups : Led} (l1 : tb < c ∧ sl < c ∧ dl < c ∧ rl < c ∧ AllLt c tups) (l2 : c < f) (n1 : @Ne Nat sl dl) (n4 : @Ne Nat dl rl) (n8 : @Ne Nat dl tb) (td : ∀ p ∈ tups, p.1 ≠ dl) :
    Apart ((tb, o1) :: (sl, o2) :: (rl, o3) :: tups) [(dl, o4), (f, o5), (c, o6)] := by
  have la := allLt_all l1.2.2.2.2
  have mk : ∀ {a : Addr}, @Ne Nat a dl → @LT.lt Nat _ a c → ∀ q ∈ [(dl, o4), (f, o5), (c, o6)], a ≠ q.1 := fun h1 h2 q hq => by
    rcases List.mem_cons.mp hq with rfl | hq
    · exact h1
    rcases List.mem_cons.mp hq with rfl | hq
    · exact Nat.ne_of_lt (Nat.lt_trans h2 l2)
    rw [List.mem_singleton.mp hq]
    exact Nat.ne_of_lt h2
  refine .cons (mk (Ne.symm n8) l1.1) (.cons (mk n1 l1.2.1) (.cons (mk (Ne.symm n4) l1.2.2.2.1) fun p hp q hq => mk (td p hp) (la p hp) q hq))
section
variable {w : World} {mean : ExcName → Option Value} {mg mb : Str → Option Value} {vals : List Value} {nv : Nat} {qual : Str} {wl lam c' : Addr} {q1 q2 p1 p2 p3 p4 : Pos} {pm ctv : Value} {oc : Obj} {fs : Array Value} {qt : Tok}
theorem law_open {gs : List (Nat × List Str)} (hv : StrsAre vals (Str.ofString "OPEN" :: flatG gs)) (hg : GOk gs) (hne : gs ≠ []) (hz : (flatG gs).length ≤ 80) (hr : (rowsOf gs).length ≤ 1000) (hoc : oc.data = .fields fs) (hq : fs[1]? = some (.str qual qt)) :
    Does w mean mg mb 16 308 [.ref wl, .ref lam] [(wl, listOf vals.toArray nv), (lam, kla_obj (Str.ofString "<lambda>") qual (lamP q1 q2) (lamB (Str.ofString "read_open") p1 p2 p3 p4) (lamS (Str.ofString "read_open")) [] pm c' ctv), (c', oc)]
      (fun r n => ∃ t new, r = .ref t ∧ ToldOpen (rowsOf gs) new t ∧ n = [(wl, listOf vals.toArray nv), (lam, kla_obj (Str.ofString "<lambda>") qual (lamP q1 q2) (lamB (Str.ofString "read_open") p1 p2 p3 p4) (lamS (Str.ofString "read_open")) [] pm c' ctv), (c', oc)] ++ new) :=
  law_read_does hv (by rw [List.length_cons]; omega) hoc hq (f := 40) (by rfl) rfl (by decide) (by rfl) (open_D hg hne hr)
theorem law_close {ns : List Str} (hv : StrsAre vals (Str.ofString "CLOSE" :: ns)) (hne : 1 ≤ ns.length) (hok : ∀ n ∈ ns, NameOk n) (hz : ns.length ≤ 80) (hoc : oc.data = .fields fs) (hq : fs[1]? = some (.str qual qt)) :
    Does w mean mg mb 16 308 [.ref wl, .ref lam] [(wl, listOf vals.toArray nv), (lam, kla_obj (Str.ofString "<lambda>") qual (lamP q1 q2) (lamB (Str.ofString "read_close") p1 p2 p3 p4) (lamS (Str.ofString "read_close")) [] pm c' ctv), (c', oc)]
      (fun r n => ∃ t new, r = .ref t ∧ ToldClose ns new t ∧ n = [(wl, listOf vals.toArray nv), (lam, kla_obj (Str.ofString "<lambda>") qual (lamP q1 q2) (lamB (Str.ofString "read_close") p1 p2 p3 p4) (lamS (Str.ofString "read_close")) [] pm c' ctv), (c', oc)] ++ new) :=
  law_read_does hv (by rw [List.length_cons]; omega) hoc hq (f := 47) (by rfl) rfl (by decide) (by rfl) (close_D hne hok)
end
section
variable {prog : Program} {w : World} {A : Around} {E : Value → Shared → Prop} {s : Shared} {h₀ : Heap} {L : Addr} {news : Led}
theorem reads_told {a b : Addr} {x : Str} {u : Tok} {vs : List Value} {ds : List PyData} (N : News h₀ L s.heap news) (h1 : (a, tupO [.str x u, .ref b]) ∈ news) (h2 : (b, tupO vs) ∈ news) (hr : ∃ as, ReadsAll s.heap vs ds as) : ∃ as, Reads s.heap (.ref a) (.tuple [.str x, .tuple ds]) as := by
  obtain ⟨as, hr⟩ := hr
  exact ⟨_, reads_tuple_at (N _ h1).1 rfl rfl (.cons (.str _ _) (.cons (reads_tuple_at (N _ h2).1 rfl rfl hr) .nil))⟩
theorem ne_told {a a' b b' : Addr} {x : Str} {u u' : Tok} {vs vs' : List Value} {rs : List (Str × Str)} {t1 t2 : Led} {Q : Value → Shared → Prop} (N : News h₀ L s.heap news) (h1 : (a, tupO [.str x u, .ref b]) ∈ news) (h2 : (b, tupO vs) ∈ news) (h1' : (a', tupO [.str x u', .ref b']) ∈ news) (h2' : (b', tupO vs') ∈ news)
    (r1 : RowsIn t1 vs rs) (s1 : ∀ p ∈ t1, p ∈ news) (r2 : RowsIn t2 vs' rs) (s2 : ∀ p ∈ t2, p ∈ news) (ok : RowsOk rs) (hx : PyData.strOk x = true) (hu : A.units + 64 < cLine) (h : Q (.bool false) s) : wpAny (model prog w) A (compareOp .NotEq (.ref a) (.ref a')) Q E s := by
  obtain ⟨as, ra⟩ := reads_told N h1 h2 (reads_rows r1 fun p hp => (N p (s1 p hp)).1)
  obtain ⟨bs, rb⟩ := reads_told N h1' h2' (reads_rows r2 fun p hp => (N p (s2 p hp)).1)
  exact ne_same ra rb (shaped_told hx (lay_rows ok)) hu h
theorem eq_closed {a a' b b' : Addr} {x : Str} {u u' : Tok} {vs vs' : List Value} {ns : List Str} {Q : Value → Shared → Prop} (N : News h₀ L s.heap news) (h1 : (a, tupO [.str x u, .ref b]) ∈ news) (h2 : (b, tupO vs) ∈ news) (h1' : (a', tupO [.str x u', .ref b']) ∈ news) (h2' : (b', tupO vs') ∈ news)
    (r1 : StrsAre vs ns) (r2 : StrsAre vs' ns) (ok : ∀ n ∈ ns, PyData.strOk n = true) (hx : PyData.strOk x = true) (hu : A.units + 64 < cLine) (h : Q (.bool true) s) : wpAny (model prog w) A (compareOp .Eq (.ref a) (.ref a')) Q E s := by
  obtain ⟨as, ra⟩ := reads_told N h1 h2 (reads_strs r1)
  obtain ⟨bs, rb⟩ := reads_told N h1' h2' (reads_strs r2)
  exact eq_same ra rb (shaped_told hx (lay_strs ok)) hu h
theorem eq_lists {a a' : Addr} {vs vs' : List Value} {n n' : Nat} {rs : List (Str × Str)} {t1 t2 : Led} {Q : Value → Shared → Prop} (N : News h₀ L s.heap news) (h1 : (a, listOf vs.toArray n) ∈ news) (h2 : (a', listOf vs'.toArray n') ∈ news)
    (r1 : RowsIn t1 vs rs) (s1 : ∀ p ∈ t1, p ∈ news) (r2 : RowsIn t2 vs' rs) (s2 : ∀ p ∈ t2, p ∈ news) (ok : RowsOk rs) (hu : A.units + 64 < cLine) (h : Q (.bool true) s) : wpAny (model prog w) A (compareOp .Eq (.ref a) (.ref a')) Q E s := by
  obtain ⟨as, ra⟩ := reads_rows r1 fun p hp => (N p (s1 p hp)).1
  obtain ⟨bs, rb⟩ := reads_rows r2 fun p hp => (N p (s2 p hp)).1
  exact eq_same (reads_list_at (N _ h1).1 rfl rfl ra) (reads_list_at (N _ h2).1 rfl rfl rb) (shaped_list (lay_rows ok)) hu h
end
end Mine
theorem Mine.kNoneC16 : True := by
  k_with_none
  w_top off
  exact trivial
end C16
section C17
open PySem PySem.W PySem.Calls PyProof.Rows
set_option linter.unusedSimpArgs false
set_option maxRecDepth 100000
set_option maxHeartbeats 1000000
namespace Mine
/-- the lambda of a loop: made in the first turn, found in the others -/
noncomputable def TabSt (ps2 : Array Value) (l c : Value) (qual : Str) (ps : Array Value) (ext : Led) : Prop :=
  (ps = ps2 ∧ ext = []) ∨ ∃ c3 oc3 fs t, ps = ps2 ++ #[l, c, .ref c3] ∧ ext = [(c3, oc3)] ∧ oc3.data = .fields fs ∧ fs[1]? = some (.str qual t)
section
variable {M : Model} {A : Around} {E : Value → Shared → Prop} {s : Shared} {h₀ : Heap} {L a c P : Addr} {m mg mb : Str → Option Value} {cn : Str} {cs : Scope} {ccd : Value} {cl : List (Str × Addr)} {news ext : Led}
  {p : Program} {loose : List Str} {mean : ExcName → Option Value} {name qual : Str} {params : Arguments} {body : PySem.Expr} {scope : Scope} {ps ps2 : Array Value} {pos : Pos} {firstLine : Nat} {clos : List (Str × Addr)}
theorem lam_any {Q : Value → Shared → Prop} (F : Fr h₀ L s.heap m) (N : News h₀ L s.heap ((P, tabObj ps) :: (ext ++ news))) (T : Top p loose mean mg mb h₀) (C : CodeHd h₀ c P) (hcd : ccd = .ref c) (hP : ∀ q ∈ ext ++ news, q.1 ≠ P) (hap : Apart ext news)
    (hps : TabSt ps2 (rawInt pos.line) (rawInt pos.col) qual ps ext) (ht2 : TriplesOk ps2.toList) (hnf : codeAmong pos ps2.toList = none) (ht3 : ∀ c3 : Addr, TriplesOk (ps2 ++ #[rawInt pos.line, rawInt pos.col, .ref c3]).toList)
    (hf3 : ∀ c3 : Addr, codeAmong pos (ps2 ++ #[rawInt pos.line, rawInt pos.col, .ref c3]).toList = some (.ref c3)) (hcl : closureFor scope (envX cn cs L a ccd cl) = pure clos)
    (h : ∀ f c3 oc3 fs t ctv h' tk, Fr h₀ L h' m → News h₀ L h' ((f, kla_obj name qual params body scope clos ((mg "__name__").getD .none) c3 ctv) :: (c3, oc3) :: (P, tabObj (ps2 ++ #[rawInt pos.line, rawInt pos.col, .ref c3])) :: news) →
      oc3.data = .fields fs → fs[1]? = some (.str qual t) → (∀ q ∈ (P, tabObj ps) :: news, @Ne Nat q.1 c3) → (∀ q ∈ (P, tabObj ps) :: news, @Ne Nat q.1 f) → Q (.ref f) { s with heap := h', toks := tk }) :
    wpAny M A (makeFunction name qual params (.expr body) scope (envX cn cs L a ccd cl) [] [] [] pos firstLine) Q E s := by
  rcases hps with ⟨rfl, rfl⟩ | ⟨c3, oc3, fs, t, rfl, rfl, hd, hq⟩
  · refine kla_nest F N T C hcd (.head hP) ht2 hnf hcl fun f c' oc vs t ctv h' tk F' N' d1 d2 l1 l2 => h f c' oc vs t ctv h' tk F' N' d1 d2 (fun q hq => Nat.ne_of_lt (l1 q hq)) fun q hq => Nat.ne_of_lt (Nat.lt_trans (l1 q hq) l2)
  · refine kla_hit (c' := c3) F N T C hcd (.head _) (ht3 c3) (hf3 c3) hcl fun f ctv h' tk F' N' l1 => h f c3 oc3 fs t ctv h' tk F' (fun q hq' => N' q ?_) hd hq (fun q hq' => ?_) (fun q hq' => Nat.ne_of_lt (l1 q ?_))
    · rcases List.mem_cons.mp hq' with rfl | hq'
      · exact .head _
      rcases List.mem_cons.mp hq' with rfl | hq'
      · exact .tail _ (.tail _ (.head _))
      rcases List.mem_cons.mp hq' with rfl | hq'
      · exact .tail _ (.head _)
      · exact .tail _ (.tail _ (.tail _ hq'))
    · rcases List.mem_cons.mp hq' with rfl | hq'
      · exact Ne.symm (hP (c3, oc3) (.head _))
      · exact Ne.symm (hap _ (.head _) q hq')
    · rcases List.mem_cons.mp hq' with rfl | hq'
      · exact .head _
      · exact .tail _ (.tail _ hq')
end
section
variable {prog : Program} {w : World} {A : Around} {E : Value → Shared → Prop} {s : Shared} {env : Env} {h₀ : Heap} {body : List Stmt} {Q : Flow → Shared → Prop} {m₀ : Str → Option Value} {news : Led}
theorem range_size (n : Nat) : Builtin.Range.rangeSize 0 n 1 = ((n : Nat) : Int) := by
  unfold Builtin.Range.rangeSize
  rw [if_pos (by decide)]
  split
  · omega
  · omega
theorem range_fits {x : Int} (h : 0 ≤ x) (h' : x ≤ 2000) : Builtin.Range.rangeFitsLong x = true := by
  unfold Builtin.Range.rangeFitsLong
  simp only [Bool.and_eq_true, decide_eq_true_eq]
  omega
theorem range_small {n : Nat} (hn : n ≤ 1000) : Builtin.Range.small 0 n 1 = true := by
  unfold Builtin.Range.small
  rw [range_size, if_pos (by decide : (1 : Int) > 0), range_fits (Int.le_refl 0) (by decide), range_fits (x := (n : Int)) (by omega) (by omega), range_fits (x := 1) (by decide) (by decide), range_fits (x := (n : Int) + (1 - 1)) (by omega) (by omega), Bool.or_true]
  rfl
/-- a loop over range(n) -/
theorem call_loop {x : Str} {n : Nat} {tn : Tok} (hz : n ≤ 1000) (hh : A.handled = none) (F : Fr h₀ env.locals s.heap m₀) (N : News h₀ env.locals s.heap news)
    (J : Nat → (Str → Option Value) → Led → Prop) (start : J 0 m₀ news)
    (turn : ∀ i m₁ news₁ t h tk I o, i < n → J i m₁ news₁ → (∀ p ∈ news₁, p.1 ≠ I) → Fr h₀ env.locals h (fun y => if y = x then some (.int i t) else m₁ y) → News h₀ env.locals h ((I, o) :: news₁) →
      wpAny (model prog w) A (execs body env) (UnrPost h₀ env.locals { s with heap := h, toks := tk } I o (fun m' n' => J (i + 1) m' n') Q) E { s with heap := h, toks := tk })
    (done : ∀ m₁ news₁ h tk, J n m₁ news₁ → Fr h₀ env.locals h m₁ → News h₀ env.locals h news₁ → Q .next { s with heap := h, toks := tk }) :
    wpAny (model prog w) A (call (.type "range") [.int n tn]) (fun xv s₁ => wpAny (model prog w) A (pyIter xv) (fun it s₂ => LoopAtV prog w A h₀ env x body Q E it s₂) E s₁) E s :=
  call_range_1 (loop_range hh (F.push _) (fun p hp => ⟨Heap.get?_push_of_some _ (N p hp).1, (N p hp).2⟩) (Heap.get?_push_size _ rfl) (range_small hz) (range_size n) J start turn done)
end
theorem dense_at : ∀ (cs : List (Nat × Str)) (i : Nat) (c : Nat × Str), cs[i]? = some c → ((denseP cs).drop (2 * i)).take 2 = [word4 c.1, c.2]
  | [], _, _, h => by simp at h
  | d :: cs, 0, c, h => by
    have e : d = c := by simpa using h
    subst e
    rfl
  | d :: cs, i + 1, c, h => by
    have h' : cs[i]? = some c := by simpa using h
    have e : 2 * (i + 1) = 2 * i + 1 + 1 := by omega
    rw [e]
    show (List.drop (2 * i + 1 + 1) (word4 d.1 :: d.2 :: denseP cs)).take 2 = _
    rw [List.drop_succ_cons, List.drop_succ_cons]
    exact dense_at cs i c h'
theorem strs_drop {vs : List Value} {ys : List Str} (h : StrsAre vs ys) : ∀ k : Nat, StrsAre (vs.drop k) (ys.drop k) := by
  induction h with
  | nil => intro k; rw [List.drop_nil, List.drop_nil]; exact .nil
  | cons a u h ih =>
    intro k
    cases k with
    | zero => exact .cons a u h
    | succ k => rw [List.drop_succ_cons, List.drop_succ_cons]; exact ih k
theorem strs_take {vs : List Value} {ys : List Str} (h : StrsAre vs ys) : ∀ k : Nat, StrsAre (vs.take k) (ys.take k) := by
  induction h with
  | nil => intro k; rw [List.take_nil, List.take_nil]; exact .nil
  | cons a u h ih =>
    intro k
    cases k with
    | zero => exact .nil
    | succ k => rw [List.take_succ_cons, List.take_succ_cons]; exact .cons a u (ih k)
theorem pick_at {dvals : List Value} {cs : List (Nat × Str)} {i : Nat} {c : Nat × Str} (h : StrsAre dvals (Str.ofString "OPEN" :: denseP cs)) (hc : cs[i]? = some c) : StrsAre (kms_pick dvals (some (1 + 2 * (i : Int))) (some (3 + 2 * (i : Int)))) [word4 c.1, c.2] := by
  have hl := strs_len h
  have hlt := (List.getElem?_eq_some_iff.mp hc).1
  rw [List.length_cons, denseP_len] at hl
  unfold kms_pick kms_lo kms_hi
  dsimp only
  rw [if_neg (by omega), if_neg (by omega)]
  have e1 : min (1 + 2 * (i : Int)).toNat dvals.length = 2 * i + 1 := by omega
  have e2 : min (3 + 2 * (i : Int)).toNat dvals.length - (2 * i + 1) = 2 := by omega
  rw [e1, e2]
  have := strs_take (strs_drop h (2 * i + 1)) 2
  rw [List.drop_succ_cons, dense_at cs i c hc] at this
  exact this
end Mine
namespace Mine
/-- the frame in the loop over the rows -/
noncomputable def fr_at (td ati : Option Value) (base : Str → Option Value) : Str → Option Value := fun y => if y = Str.ofString "told" then td else if y = Str.ofString "at" then ati else base y
theorem fr_at_start {base : Str → Option Value} (h : base (Str.ofString "told") = none) : base = fr_at none (base (Str.ofString "at")) base := by
  funext y
  unfold fr_at
  by_cases h1 : y = Str.ofString "told"
  · rw [if_pos h1, h1, h]
  · rw [if_neg h1]
    by_cases h2 : y = Str.ofString "at"
    · rw [if_pos h2, h2]
    · rw [if_neg h2]
theorem fr_at_next {td ati : Option Value} {v t : Value} {base : Str → Option Value} : (fun y => if y = Str.ofString "told" then some v else if y = Str.ofString "at" then some t else fr_at td ati base y) = fr_at (some v) (some t) base := by
  funext y
  unfold fr_at
  by_cases h1 : y = Str.ofString "told"
  · simp only [if_pos h1]
  · simp only [if_neg h1]
    by_cases h2 : y = Str.ofString "at"
    · simp only [if_pos h2]
    · simp only [if_neg h2]
/-- the values are tuples of the ledger, and the ledger holds nothing else -/
noncomputable def TupO (gt : Led) : Prop := ∀ p ∈ gt, ∃ vs : List Value, p.2 = tupO vs
theorem rows_own {led : Led} {refs : List Value} {rs : List (Str × Str)} (h : RowsIn led refs rs) : ∃ led' : Led, (∀ p ∈ led', p ∈ led) ∧ TupO led' ∧ RowsIn led' refs rs := by
  induction h with
  | nil => exact ⟨[], fun _ h => (nomatch h), fun _ h => (nomatch h), .nil⟩
  | @cons a m n u u' vs rs hm _ ih =>
    obtain ⟨l, h1, h2, h3⟩ := ih
    refine ⟨(a, tupO [.str m u, .str n u']) :: l, fun p hp => ?_, fun p hp => ?_, .cons (.head _) (h3.mono fun _ h => .tail _ h)⟩
    · rcases List.mem_cons.mp hp with rfl | hp
      · exact hm
      · exact h1 p hp
    · rcases List.mem_cons.mp hp with rfl | hp
      · exact ⟨_, rfl⟩
      · exact h2 p hp
theorem RowsIn.app {l1 l2 : Led} {v1 v2 : List Value} {r1 r2 : List (Str × Str)} (h1 : RowsIn l1 v1 r1) (h2 : RowsIn l2 v2 r2) : RowsIn (l1 ++ l2) (v1 ++ v2) (r1 ++ r2) := by
  have h2' := h2.mono (led' := l1 ++ l2) fun _ h => List.mem_append_right _ h
  have h1' := h1.mono (led' := l1 ++ l2) fun _ h => List.mem_append_left _ h
  generalize l1 ++ l2 = l at h1' h2'
  clear h1 h2
  induction h1' with
  | nil => exact h2'
  | cons hm _ ih => exact .cons hm ih
theorem ne_data {h₀ h : Heap} {L a b : Addr} {o o' : Obj} {led : Led} (N : News h₀ L h led) (h1 : (a, o) ∈ led) (h2 : (b, o') ∈ led) (hc : o.data ≠ o'.data) : @Ne Nat a b := fun e => by
  obtain rfl : a = b := e
  exact hc (congrArg Obj.data (Option.some.inj ((N _ h1).1.symm.trans (N _ h2).1)))
theorem TupO.cls {gt : Led} (h : TupO gt) : TupL gt := fun p hp => by
  obtain ⟨vs, e⟩ := h p hp
  rw [e]
/-- how the law's lambdas are called -/
noncomputable abbrev lawQ : Str := (envX (Str.ofString "law") default (0 : Nat) (0 : Nat) Value.none []).qual ++ ("<lambda>" : Str)
/-- the loop over the rows: what holds between the turns -/
noncomputable def Turn2 (ps2 : Array Value) (l c : Value) (qual : Str) (cs : List (Nat × Str)) (base : Str → Option Value) (gl sl dl rl : Addr) (os od or : Obj) (tups : Led) (i : Nat) (m : Str → Option Value) (n : Led) : Prop :=
  ∃ td ati ps ext grefs ng gt, TabSt ps2 l c qual ps ext ∧ RowsIn gt grefs (rowsP (cs.take i)) ∧ TupO gt ∧ (∀ p ∈ ext, @Ne Nat p.1 310) ∧
    m = fr_at td ati base ∧ n = (310, tabObj ps) :: (gl, listOf grefs.toArray ng) :: (sl, os) :: (dl, od) :: (rl, or) :: (tups ++ (gt ++ ext))
theorem turn2_take {cs : List (Nat × Str)} {i : Nat} {c : Nat × Str} (h : cs[i]? = some c) : rowsP (cs.take (i + 1)) = rowsP (cs.take i) ++ rowsOf [(c.1, [c.2])] := by
  rw [List.take_add_one, h]
  unfold rowsP
  rw [List.map_append]
  rfl
/-- what stands apart from the lambda's code object -/
theorem ext_apart {h₀ h : Heap} {L I wl gl sl dl rl : Addr} {o ow og os od or : Obj} {tups gt ext all : Led} {ps2 : Array Value} {l c : Value} {qual : Str} {ps : Array Value} (N : News h₀ L h all) (hps : TabSt ps2 l c qual ps ext) (hs : ∀ p ∈ (wl, ow) :: (I, o) :: (gl, og) :: (sl, os) :: (dl, od) :: (rl, or) :: (tups ++ gt), p ∈ all) (he : ∀ p ∈ ext, p ∈ all)
    (hI : ∀ p ∈ ext, p.1 ≠ I) (seq : ∀ p ∈ (wl, ow) :: (gl, og) :: (sl, os) :: (dl, od) :: (rl, or) :: (tups ++ gt), ∃ its n, p.2.data = .seq its n) : Apart ext ((wl, ow) :: (I, o) :: (gl, og) :: (sl, os) :: (dl, od) :: (rl, or) :: (tups ++ gt)) := by
  intro p hp q hq
  rcases hps with ⟨_, rfl⟩ | ⟨c3, oc3, fs, t, _, rfl, hd, _⟩
  · cases hp
  have hp' := List.mem_singleton.mp hp
  have main : ∀ q ∈ (wl, ow) :: (gl, og) :: (sl, os) :: (dl, od) :: (rl, or) :: (tups ++ gt), q ∈ all → p.1 ≠ q.1 := fun q hq ha => by
    obtain ⟨its, n, e⟩ := seq q hq
    refine ne_data N (he p hp) ha ?_
    rw [e, hp']
    dsimp only
    rw [hd]
    exact nofun
  rcases List.mem_cons.mp hq with rfl | hq'
  · exact main _ (.head _) (hs _ hq)
  rcases List.mem_cons.mp hq' with rfl | hq'
  · exact hI p hp
  · exact main q (.tail _ hq') (hs q hq)
theorem apart3 {ex : Led} {a b c : Addr} {o1 o2 o3 : Obj} (h1 : ∀ p ∈ ex, @Ne Nat p.1 a) (h2 : ∀ p ∈ ex, @Ne Nat p.1 b) (h3 : ∀ p ∈ ex, @Ne Nat p.1 c) : Apart ex [(a, o1), (b, o2), (c, o3)] := fun p hp q hq => by
  rcases List.mem_cons.mp hq with rfl | hq
  · exact h1 p hp
  rcases List.mem_cons.mp hq with rfl | hq
  · exact h2 p hp
  rw [List.mem_singleton.mp hq]
  exact h3 p hp
end Mine
namespace Mine
theorem ex_ne {P wl c : Addr} {o1 o2 ow : Obj} {rest : Led} (l : ∀ q ∈ (P, o1) :: (wl, ow) :: rest, @Ne Nat q.1 c) : ∀ p ∈ (P, o2) :: rest, @Ne Nat p.1 c := fun p hp => by
  rcases List.mem_cons.mp hp with rfl | hp
  · exact l (P, o1) (.head _)
  · exact l p (.tail _ (.tail _ hp))
theorem law_sub3 {a i g s d r w f c x y : Addr × Obj} {tups gt t9 : Led} : ∀ p ∈ i :: a :: g :: s :: d :: r :: x :: y :: c :: (tups ++ (gt ++ t9)), p ∈ a :: i :: g :: s :: d :: r :: (tups ++ gt ++ w :: f :: c :: x :: y :: t9) := fun p hp => by
  simp only [List.mem_append, List.mem_cons] at hp ⊢
  rcases hp with h | h | h | h | h | h | h | h | h | h | h | h <;> simp only [h, true_or, or_true]
theorem turn2_ne {a i gl sl dl rl : Addr} {oa oi og os od or : Obj} {w f c x y : Addr × Obj} {tups gt t9 : Led} (ap : Apart ((a, oa) :: (i, oi) :: (gl, og) :: (sl, os) :: (dl, od) :: (rl, or) :: (tups ++ gt)) (w :: f :: c :: x :: y :: t9))
    (g1 : @Ne Nat gl sl) (g2 : @Ne Nat gl dl) (g3 : @Ne Nat gl rl) (ht : ∀ p ∈ tups ++ gt, @Ne Nat p.1 gl) : ∀ p ∈ (sl, os) :: (dl, od) :: (rl, or) :: x :: y :: c :: (tups ++ (gt ++ t9)), p.1 ≠ gl := fun p hp => by
  have hg := ap (gl, og) (.tail _ (.tail _ (.head _)))
  rcases List.mem_cons.mp hp with rfl | hp
  · exact Ne.symm g1
  rcases List.mem_cons.mp hp with rfl | hp
  · exact Ne.symm g2
  rcases List.mem_cons.mp hp with rfl | hp
  · exact Ne.symm g3
  rcases List.mem_cons.mp hp with rfl | hp
  · exact Ne.symm (hg _ (.tail _ (.tail _ (.tail _ (.head _)))))
  rcases List.mem_cons.mp hp with rfl | hp
  · exact Ne.symm (hg _ (.tail _ (.tail _ (.tail _ (.tail _ (.head _))))))
  rcases List.mem_cons.mp hp with rfl | hp
  · exact Ne.symm (hg _ (.tail _ (.tail _ (.head _))))
  rw [← List.append_assoc] at hp
  rcases List.mem_append.mp hp with hp | hp
  · exact ht p hp
  · exact Ne.symm (hg p (.tail _ (.tail _ (.tail _ (.tail _ (.tail _ hp))))))
theorem turn2_end {h₀ h' : Heap} {s : Shared} {tk' : Nat} {L I a gl sl dl rl cL : Addr} {o oc os od or : Obj} {x y : Addr × Obj} {w f : Addr × Obj} {oa oa2 og : Obj} {l cc td ati : Value} {td0 ati0 : Option Value} {qual : Str} {fs : Array Value} {qt : Tok} {cs : List (Nat × Str)} {c : Nat × Str} {base : Str → Option Value} {tups gt t9 : Led} {grefs refs9 : List Value} {ng i : Nat} {ps2 : Array Value}
    (F : Fr h₀ L h' (fun y => if y = Str.ofString "told" then some td else if y = Str.ofString "at" then some ati else fr_at td0 ati0 base y))
    (N : News h₀ L h' ((I, o) :: (310, tabObj (ps2 ++ #[l, cc, .ref cL])) :: (gl, listOf (grefs ++ refs9).toArray (ng + 1)) :: (sl, os) :: (dl, od) :: (rl, or) :: x :: y :: (cL, oc) :: (tups ++ (gt ++ t9))))
    (ap : Apart ((310, oa) :: (I, o) :: (gl, og) :: (sl, os) :: (dl, od) :: (rl, or) :: (tups ++ gt)) (w :: f :: (cL, oc) :: x :: y :: t9)) (hoI : ∀ p ∈ (a, oa2) :: (gl, og) :: (sl, os) :: (dl, od) :: (rl, or) :: (tups ++ gt), p.1 ≠ I) (h310 : @Ne Nat 310 I) (hc : cs[i]? = some c)
    (hgr : RowsIn gt grefs (rowsP (cs.take i))) (hgt : TupO gt) (hr9 : RowsIn t9 refs9 (rowsOf [(c.1, [c.2])])) (hd : oc.data = .fields fs) (hq : fs[1]? = some (.str qual qt)) (hcL : @Ne Nat cL 310) :
    UnrEnd h₀ L s I o (fun m' n' => Turn2 ps2 l cc qual cs base gl sl dl rl os od or tups (i + 1) m' n') { s with heap := h', toks := tk' } := by
  obtain ⟨g9, hs9, ho9, hr9'⟩ := rows_own hr9
  have hI := ap (I, o) (.tail _ (.head _))
  refine ⟨h', tk', _, (310, tabObj (ps2 ++ #[l, cc, .ref cL])) :: (gl, listOf (grefs ++ refs9).toArray (ng + 1)) :: (sl, os) :: (dl, od) :: (rl, or) :: (tups ++ ((gt ++ g9) ++ [(cL, oc)])), rfl, F, fun p hp => N p ?_, fun p hp => ?_,
    some td, some ati, _, [(cL, oc)], _, _, gt ++ g9, .inr ⟨cL, oc, fs, qt, rfl, rfl, hd, hq⟩, by rw [turn2_take hc]; exact hgr.app hr9', fun p hp => ?_, fun p hp => by rw [List.mem_singleton.mp hp]; exact hcL, fr_at_next, rfl⟩
  · simp only [List.mem_cons, List.mem_append, List.not_mem_nil, or_false] at hp ⊢
    rcases hp with h | h | h | h | h | h | h | (h | h) | h
    all_goals first | simp only [h, true_or, or_true] | simp only [hs9 p h, true_or, or_true]
  · rcases List.mem_cons.mp hp with rfl | hp
    · exact h310
    rcases List.mem_cons.mp hp with rfl | hp
    · exact hoI (gl, og) (.tail _ (.head _))
    rcases List.mem_cons.mp hp with rfl | hp
    · exact hoI (sl, os) (.tail _ (.tail _ (.head _)))
    rcases List.mem_cons.mp hp with rfl | hp
    · exact hoI (dl, od) (.tail _ (.tail _ (.tail _ (.head _))))
    rcases List.mem_cons.mp hp with rfl | hp
    · exact hoI (rl, or) (.tail _ (.tail _ (.tail _ (.tail _ (.head _)))))
    have old : p ∈ tups ++ gt → p.1 ≠ I := fun h => hoI p (.tail _ (.tail _ (.tail _ (.tail _ (.tail _ h)))))
    rcases List.mem_append.mp hp with hp | hp
    · exact old (List.mem_append_left _ hp)
    rcases List.mem_append.mp hp with hp | hp
    · rcases List.mem_append.mp hp with hp | hp
      · exact old (List.mem_append_right _ hp)
      · exact Ne.symm (hI p (.tail _ (.tail _ (.tail _ (.tail _ (.tail _ (hs9 p hp)))))))
    · rw [List.mem_singleton.mp hp]
      exact Ne.symm (hI _ (.tail _ (.tail _ (.head _))))
  · rcases List.mem_append.mp hp with hp | hp
    · exact hgt p hp
    · exact ho9 p hp
end Mine
namespace Mine
theorem law_sub0 {s d r c t : Addr × Obj} {tups tups' : Led} (h : ∀ p ∈ tups', p ∈ tups) : ∀ p ∈ s :: d :: r :: (tups' ++ [c, t]), p ∈ s :: d :: r :: (tups ++ [c, t]) := fun p hp => by
  simp only [List.mem_append, List.mem_cons, List.not_mem_nil, or_false] at hp ⊢
  rcases hp with h' | h' | h' | h' | h' | h'
  all_goals first | simp only [h', true_or, or_true] | simp only [h p h', true_or, or_true]
theorem turn2_in {a g s d r : Addr × Obj} {tups gt ext : Led} : ∀ p ∈ a :: g :: s :: d :: r :: (tups ++ gt), p ∈ a :: g :: s :: d :: r :: (tups ++ (gt ++ ext)) := fun p hp => by
  simp only [List.mem_append, List.mem_cons] at hp ⊢
  rcases hp with h | h | h | h | h | h | h <;> simp only [h, true_or, or_true]
theorem turn2_in2 {w x y i a g s d r p : Addr × Obj} {rest : Led} (h : p ∈ rest) : p ∈ w :: x :: y :: i :: a :: g :: s :: d :: r :: rest := by
  simp only [List.mem_cons, h, or_true]
theorem turn2_in3 {w x y i a g s d r : Addr × Obj} {tups gt ext : Led} : ∀ p ∈ w :: i :: g :: s :: d :: r :: (tups ++ gt), p ∈ w :: x :: y :: i :: a :: g :: s :: d :: r :: (tups ++ (gt ++ ext)) := fun p hp => by
  simp only [List.mem_append, List.mem_cons] at hp ⊢
  rcases hp with h | h | h | h | h | h | h | h <;> simp only [h, true_or, or_true]
theorem turn2_sub {w x y i a g s d r : Addr × Obj} {tups gt ext : Led} : ∀ p ∈ a :: (ext ++ w :: i :: g :: s :: d :: r :: (tups ++ gt)), p ∈ w :: x :: y :: i :: a :: g :: s :: d :: r :: (tups ++ (gt ++ ext)) := fun p hp => by
  simp only [List.mem_append, List.mem_cons] at hp ⊢
  rcases hp with h | h | h | h | h | h | h | h | h | h <;> simp only [h, true_or, or_true]
theorem turn2_seq {wl gl sl dl rl : Addr} {a b c d e : List Value} {na nb nc nd ne : Nat} {tups gt : Led} (h1 : TupO tups) (h2 : TupO gt) : ∀ p ∈ (wl, listOf a.toArray na) :: (gl, listOf b.toArray nb) :: (sl, listOf c.toArray nc) :: (dl, listOf d.toArray nd) :: (rl, listOf e.toArray ne) :: (tups ++ gt), ∃ its n, p.2.data = .seq its n := fun p hp => by
  simp only [List.mem_append, List.mem_cons] at hp
  rcases hp with rfl | rfl | rfl | rfl | rfl | h | h
  · exact ⟨_, _, rfl⟩
  · exact ⟨_, _, rfl⟩
  · exact ⟨_, _, rfl⟩
  · exact ⟨_, _, rfl⟩
  · exact ⟨_, _, rfl⟩
  · obtain ⟨vs, e⟩ := h1 p h
    exact ⟨_, _, by rw [e]⟩
  · obtain ⟨vs, e⟩ := h2 p h
    exact ⟨_, _, by rw [e]⟩
theorem turn2_wl {x y i a g s d r wl : Addr} {oa oi og os od or : Obj} {tups gt ext : Led} (l : x < wl ∧ y < wl ∧ i < wl ∧ a < wl ∧ g < wl ∧ s < wl ∧ d < wl ∧ r < wl ∧ AllLt wl (tups ++ (gt ++ ext))) : ∀ p ∈ (a, oa) :: (i, oi) :: (g, og) :: (s, os) :: (d, od) :: (r, or) :: (tups ++ gt), @Ne Nat p.1 wl := fun p hp => by
  obtain ⟨_, _, l3, l4, l5, l6, l7, l8, l9⟩ := l
  have la := allLt_all l9
  simp only [List.mem_append, List.mem_cons] at hp
  rcases hp with rfl | rfl | rfl | rfl | rfl | rfl | h | h
  · exact Nat.ne_of_lt l4
  · exact Nat.ne_of_lt l3
  · exact Nat.ne_of_lt l5
  · exact Nat.ne_of_lt l6
  · exact Nat.ne_of_lt l7
  · exact Nat.ne_of_lt l8
  · exact Nat.ne_of_lt (la p (List.mem_append_left _ h))
  · exact Nat.ne_of_lt (la p (List.mem_append_right _ (List.mem_append_left _ h)))
theorem turn2_310 {wl I gl sl dl rl : Addr} {ow o og os od or : Obj} {tups gt ext : Led} (hex : ∀ p ∈ ext, @Ne Nat p.1 310) (hw : @Ne Nat wl 310) (hI : @Ne Nat 310 I) (hg : @Ne Nat gl 310) (hs : @Ne Nat sl 310) (hd : @Ne Nat dl 310) (hr : @Ne Nat rl 310) (ht : ∀ p ∈ tups, p.1 ≠ 310) (hg2 : ∀ p ∈ gt, p.1 ≠ 310) :
    ∀ q ∈ ext ++ (wl, ow) :: (I, o) :: (gl, og) :: (sl, os) :: (dl, od) :: (rl, or) :: (tups ++ gt), q.1 ≠ 310 := fun p hp => by
  simp only [List.mem_append, List.mem_cons] at hp
  rcases hp with h | rfl | rfl | rfl | rfl | rfl | rfl | h | h
  · exact hex p h
  · exact hw
  · exact Ne.symm hI
  · exact hg
  · exact hs
  · exact hd
  · exact hr
  · exact ht p h
  · exact hg2 p h
end Mine
namespace Mine
theorem told_words {us : List Value} {c : Nat × Str} {t : Tok} (h : StrsAre us [word4 c.1, c.2]) : StrsAre ([Value.str (Str.ofString "OPEN") t] ++ us) (Str.ofString "OPEN" :: flatG [(c.1, [c.2])]) := .cons _ _ h
end Mine
namespace Mine
theorem turn2_len {led led' : Led} {a b : List Value} {rs : List (Str × Str)} {c : Nat × Str} (h : RowsIn led a rs) (h' : RowsIn led' b (rowsOf [(c.1, [c.2])])) (hz : rs.length ≤ 14) : a.length + b.length ≤ 1000 := by
  have h1 := h.length
  have h2 := h'.length
  have h3 : (rowsOf [(c.1, [c.2])]).length = 1 := rfl
  omega
end Mine
namespace Mine
theorem refs_ne {led : Led} {b : List Value} {c : Nat × Str} (h : RowsIn led b (rowsOf [(c.1, [c.2])])) : b ≠ [] := fun e => by
  have h2 := h.length
  have h3 : (rowsOf [(c.1, [c.2])]).length = 1 := rfl
  rw [e, h3] at h2
  cases h2
end Mine
namespace Mine
section
variable {prog : Program} {w : World} {A : Around} {E : Value → Shared → Prop} {s : Shared} {h₀ : Heap} {L : Addr} {news : Led}
theorem tup_at {t : Addr} {vals : List Value} (N : News h₀ L s.heap news) (hm : (t, tupO vals) ∈ news) : IsTup s.heap t vals.toArray := ⟨_, (N _ hm).1, rfl, _, rfl⟩
theorem tup_item0 {value slice : PySem.Expr} {t : Addr} {a b : Value} {u : Tok} {Q : Value → Shared → Prop} (N : News h₀ L s.heap news) (hm : (t, tupO [a, b]) ∈ news) (h : Q a s)
    (hs : subscripted slice false (.ref t) (.int 0 u) = operate [.ref t, .int 0 u] (getItem (.ref t) (.int 0 u)) := by with_unfolding_all rfl) : wpAny (model prog w) A (subscriptTail value slice (.ref t) (.int 0 u)) Q E s :=
  item_tupleT (tup_at N hm) (by decide) (by decide) (j := 0) rfl rfl h hs
theorem tup_item1 {value slice : PySem.Expr} {t : Addr} {a b : Value} {u : Tok} {Q : Value → Shared → Prop} (N : News h₀ L s.heap news) (hm : (t, tupO [a, b]) ∈ news) (h : Q b s)
    (hs : subscripted slice false (.ref t) (.int 1 u) = operate [.ref t, .int 1 u] (getItem (.ref t) (.int 1 u)) := by with_unfolding_all rfl) : wpAny (model prog w) A (subscriptTail value slice (.ref t) (.int 1 u)) Q E s :=
  item_tupleT (tup_at N hm) (by decide) (by decide) (j := 1) rfl rfl h hs
theorem tup_len {t : Addr} {a b : Value} {Q : Value → Shared → Prop} (N : News h₀ L s.heap news) (hm : (t, tupO [a, b]) ∈ news) (h : Q (.int 2 (s.toks + 1)) { s with toks := s.toks + 1 + 1 }) : wpAny (model prog w) A (call (.builtin "len") [.ref t]) Q E s :=
  len_tuple (tup_at N hm) (by show ((2 : Nat) : Int) < 2 ^ 63; decide) h
end
end Mine
theorem Mine.kNoneC17 : True := by
  k_with_none
  w_top off
  exact trivial
end C17
section C18
open PySem PySem.W PySem.Calls PyProof.Rows
set_option linter.unusedSimpArgs false
set_option maxRecDepth 100000
set_option maxHeartbeats 1000000
namespace Mine
theorem rows_at {led : Led} {vs : List Value} {rs : List (Str × Str)} (h : RowsIn led vs rs) : ∀ {i : Nat} {v : Value}, vs[i]? = some v → ∃ a m n u u', v = .ref a ∧ (a, tupO [.str m u, .str n u']) ∈ led ∧ rs[i]? = some (m, n) := by
  induction h with
  | nil => intro i v e; simp at e
  | @cons a m n u u' vs rs hm _ ih =>
    intro i v e
    cases i with
    | zero =>
      have e' : Value.ref a = v := by simpa using e
      exact ⟨a, m, n, u, u', e'.symm, hm, rfl⟩
    | succ i =>
      obtain ⟨a', m', n', w, w', h1, h2, h3⟩ := ih (i := i) (by simpa using e)
      exact ⟨a', m', n', w, w', h1, h2, by simpa using h3⟩
section
variable {prog : Program} {w : World} {A : Around} {s : Shared} {h₀ : Heap} {L : Addr} {m : Str → Option Value} {env : Env}
theorem names_rest {x x₂ : Str} {px : Pos} {scope : Scope} {cl : List (Str × Addr)} {S : Led → Prop} {its : Array Value} {rs : List (Str × Str)} {tups news : Led} {Fin : List Value → Led → Prop} (hr : RowsIn tups its.toList rs) (hsub : ∀ p ∈ tups, p ∈ news) (hS : S news)
    (hk : ∀ C, (compEnvC scope cl C env).scope.kind = .function) (hl : ∀ C, (compEnvC scope cl C env).kindOf x₂ = some .local) (hd : (x₂ == ("__debug__" : Str)) = false)
    (fin : ∀ ys, StrsAre ys (rs.map (·.2)) → Fin ys news) : ∀ (k i : Nat) (ys : List Value), i + k = its.size → StrsAre ys ((rs.take i).map (·.2)) →
      LCp.CompRestP prog w A h₀ L m env (.Name x₂ px) x x₂ scope cl s S (fun i v => its[i]? = some v) Fin k i ys news
  | 0, i, ys, he, hy => by
    refine fin ys ?_
    have h1 := hr.length
    rw [Array.length_toList] at h1
    rw [List.take_of_length_le (by omega)] at hy
    exact hy
  | k + 1, i, ys, he, hy => fun v hv => by
    obtain ⟨a, mm, n, u, u', rfl, hm, hi⟩ := rows_at hr (i := i) (v := v) (by rw [Array.getElem?_toList]; exact hv)
    refine ⟨a, _, .str mm u, .str n u', _, rfl, hsub _ hm, rfl, rfl, fun I oI C oC D m₂ h tk E' hC hx hx2 F N off ne => ?_⟩
    refine LCgL.ld_own N (.tail _ (.head _)) hC hx2 ⟨h, tk, news, rfl, F, N, off, hS, names_rest hr hsub hS hk hl hd fin k (i + 1) (ys ++ [.str n u']) (by omega) ?_⟩ (hk C) (hl C) hd
    rw [List.take_add_one, hi, List.map_append]
    exact strs_app hy (.cons _ _ .nil)
end
end Mine
namespace Mine
theorem names_eq (cs : List (Nat × Str)) : (rowsP cs).map (·.2) = cs.map (·.2) := by
  rw [rowsP, List.map_map]
  rfl
theorem names_ok {cs : List (Nat × Str)} (h : PairsOk cs) : ∀ n ∈ (rowsP cs).map (·.2), NameOk n := by
  rw [names_eq]
  intro n hn
  obtain ⟨c, hc, rfl⟩ := List.mem_map.mp hn
  exact (h c hc).2
theorem names_one {cs : List (Nat × Str)} (h : cs ≠ []) : 1 ≤ ((rowsP cs).map (·.2)).length := by
  rw [names_eq, List.length_map]
  exact List.length_pos_iff.mpr h
theorem names_str {rs : List (Str × Str)} (h : RowsOk rs) : ∀ n ∈ rs.map (·.2), PyData.strOk n = true := by
  intro n hn
  obtain ⟨c, hc, rfl⟩ := List.mem_map.mp hn
  exact (h c hc).2
theorem close_hv {ys : List Value} {ns : List Str} {u : Tok} (h : StrsAre ys ns) : StrsAre ([Value.str (Str.ofString "CLOSE") u] ++ ys) (Str.ofString "CLOSE" :: ns) := .cons _ _ h
end Mine
theorem Mine.kNoneC18 : True := by
  k_with_none
  w_top off
  exact trivial
end C18
section L1
open PySem PySem.W PySem.Calls PyProof.Rows
set_option linter.unusedSimpArgs false
set_option maxRecDepth 100000
set_option maxHeartbeats 4000000
local macro_rules | `(tactic| walk_at $s:str) => `(tactic| k_extra $s)
local macro_rules | `(tactic| k_room) => `(tactic| ktr_room)
local macro_rules | `(tactic| k_mem) => `(tactic| first | assumption | exact List.mem_cons_self | (refine List.mem_cons_of_mem _ ?_; k_mem))
local macro_rules | `(tactic| k_ne) => `(tactic| first | assumption | exact Ne.symm (by assumption) | exact Nat.ne_of_gt (by assumption) | exact Nat.ne_of_lt (by assumption))
local macro_rules | `(tactic| k_all) => `(tactic| first | assumption | exact Mine.all_RL (by first | assumption | exact Nat.ne_of_gt (by assumption)) (by first | exact Mine.off_lt (by assumption) | exact Mine.off_ne (by assumption)))
local macro_rules | `(tactic| k_all) => `(tactic| first | (refine List.forall_mem_append.mpr ⟨?_, ?_⟩; (focus assumption); k_all))
theorem Mine.nsEq : ∀ P, (Mine.base.heap_1 P).lookup mainNs = Mine.patch Mine.reserved (Mine.base.heap_1 P) := fun P => by kernel_rfl
open Mine in
theorem Mine.law0 : PySem.Challenge.rw_pb0252_01.Holds := by
  refine holds_law Mine.said fun said => ?_
  refine holds_open (q := Mine.view) (loose := [Str.ofString "LedgerError", Str.ofString "Token"]) (Xt := fun s => xlAt Mine.view [] s && recOk (RowW.records Mine.rowH) s) (XP := XL Mine.view []) (Yf := (Mine.hookNs Mine.reserved Mine.base.heap_1 Mine.adrH [310] ()).obs) (Ya := (Mine.hookNs Mine.reserved Mine.base.heap_1 Mine.adrH [310] ()).val) (YP := (Mine.hookNs Mine.reserved Mine.base.heap_1 Mine.adrH [310] ()).says) (N := 4040)
    Mine.leftV (Mine.hookNs Mine.reserved Mine.base.heap_1 Mine.adrH [310] ()).of (Mine.hookNs Mine.reserved Mine.base.heap_1 Mine.adrH [310] ()).keeps (fun s e => xl_of s (Bool.and_eq_true_iff.mp e).1) XL.keeps (by rfl) (by rfl) (by rfl) (fun s e => recFacts_of (Bool.and_eq_true_iff.mp e).2) (by rfl) said (by decide +kernel) ⟨rfl, rfl, rfl, rfl, rfl, by decide +kernel⟩ ?hw ?hc
  case hw => w_witness2
  clear said
  k_fill
  intro w s₀ s₁ mg mb G Y fa o pm cd doc dV kV ho hd' hcd hD hmg hg args vals as hpre hlay hrd hwl hlo
  have KX : Frag.In (Mine.base.heap_1 w.params) s₁.heap := Mine.hookNs_in Y (by kernel_rfl) (Mine.nsEq _)
  have hT8 := Mine.hookNs_tabs Y
  clear Y
  have X := (Ground.X G).1
  have V := (Ground.X G).2
  refine Ground.open G ?_
  intro T B D TE TW
  try (refine guard_noD D (by decide +kernel) ?_; clear D)
  km_lay T hmg ho hd' cd
  clear hmg
  wrow_args hpre hlay hrd hwl hlo
  all_goals (
    first | refine callC_kw (enter_call ?_) | refine enter_call ?_
    w_top on
    kn_posts
    w_call any ho hd' hcd hD T F
    clear hd'
    kn_ghosts F T
    k_drop
    skip)
  k_with_none
  k_with "exec For Tuple Call cons nil" => (k_here; (rename Fr _ _ _ _ => lF'); (with_unfolding_all refine' PySem.W.For_turns lF' ?_; k_whole))
  k_with "call type:enumerate" => (refine Mine.Hold.out ?_)
  k_steps
  unfold Hold
  rename_i cl ws y10 hI8 lD y11 rl y12 lA dl y13 lB sl y14 lC y1 y2 y3 y4 y5 y6 y7 y8 N8
  have n1 : @Ne Nat sl dl := by omega
  have n2 : @Ne Nat sl rl := by omega
  have n3 : @Ne Nat sl cl := by omega
  have n4 : @Ne Nat dl rl := by omega
  have n5 : @Ne Nat dl cl := by omega
  have n6 : @Ne Nat rl cl := by omega
  have n7 : @Ne Nat sl 310 := by omega
  have n8 : @Ne Nat dl 310 := by omega
  have n9 : @Ne Nat rl 310 := by omega
  clear y3 lA lB lC lD
  have hnl := hnl_of hI8
  generalize hns : List.map (fun k' => if k' < 0 then -k' else k') _ ++ _ = ns at hI8 hnl
  have N9 : News _ _ _ [(sl, listOf [Value.str (Str.ofString "OPEN") _].toArray 0), (dl, listOf [Value.str (Str.ofString "OPEN") _].toArray 0), (rl, listOf [].toArray 0), (cl, listOf ws.toArray 0), (310, tabObj #[])] := (by repeat' (first | exact List.forall_mem_nil _ | refine List.forall_mem_cons.mpr ⟨N8 _ (by k_mem), ?_⟩))
  clear N8
  refine loop_enum (vs := ws) (n := 0) rfl lF' N9 (by k_mem) (Turn1 ns cl sl dl rl _ ws (tabObj #[])) ⟨[], ns, none, none, none, none, none, _, [], 0, _, 0, _, 0, [], rfl, hI8, .nil, .cons _ _ .nil, .cons _ _ .nil, (fun _ h => nomatch h), fr_law_start, rfl⟩ ?turn ?done
  case turn =>
    clear lF' N9
    rintro v r i m₁ news₁ T t h tk its ⟨dn, rm, nm, md, wd, nu, ati, ul, refs, nr, dvals, nd, svals, nsv, tups, hns', hr, hrw, hdv, hsv, htp, rfl, rfl⟩ hl hT hits F1 N1
    obtain ⟨I, o1, o2, rfl, c1, c2⟩ := hits
    cases hr with
    | cons x tx hr =>
    simp only [List.cons_append, List.nil_append] at N1
    have q1 : @Ne Nat (I + 1) sl := ne_cls N1 (by k_mem) (by k_mem) (by rw [c1]; exact enum_list)
    have q2 : @Ne Nat (I + 1) dl := ne_cls N1 (by k_mem) (.tail _ (.tail _ (.tail _ (.head _)))) (by rw [c1]; exact enum_list)
    have q3 : @Ne Nat (I + 1) rl := ne_cls N1 (by k_mem) (.tail _ (.tail _ (.tail _ (.tail _ (.head _))))) (by rw [c1]; exact enum_list)
    have q4 : @Ne Nat I sl := ne_cls N1 (.tail _ (.head _)) (by k_mem) (by rw [c2]; exact iter_list)
    have q5 : @Ne Nat I dl := ne_cls N1 (.tail _ (.head _)) (.tail _ (.tail _ (.tail _ (.head _)))) (by rw [c2]; exact iter_list)
    have q6 : @Ne Nat I rl := ne_cls N1 (.tail _ (.head _)) (.tail _ (.tail _ (.tail _ (.tail _ (.head _))))) (by rw [c2]; exact iter_list)
    have sub1 : ∀ p ∈ tups, p ∈ (I + 1, o1) :: (I, o2) :: (sl, listOf svals.toArray nsv) :: (dl, listOf dvals.toArray nd) :: (rl, listOf refs.toArray nr) :: (tups ++ [(cl, listOf ws.toArray 0), (310, tabObj #[])]) := fun p hp => .tail _ (.tail _ (.tail _ (.tail _ (.tail _ (List.mem_append_left _ hp)))))
    have ts : ∀ p ∈ tups, p.1 ≠ sl := tupL_ne N1 sub1 htp (.tail _ (.tail _ (.head _))) tup_list
    have td : ∀ p ∈ tups, p.1 ≠ dl := tupL_ne N1 sub1 htp (.tail _ (.tail _ (.tail _ (.head _)))) tup_list
    have tr : ∀ p ∈ tups, p.1 ≠ rl := tupL_ne N1 sub1 htp (.tail _ (.tail _ (.tail _ (.tail _ (.head _))))) tup_list
    have hdn : dn.length ≤ 14 := by
      rw [hns', List.length_append] at hnl
      omega
    have hz1 : refs.length ≤ 1000 := by
      rw [hrw.length, rowsP, List.length_map, List.length_map]
      omega
    have hz2 : dvals.length ≤ 900 := by
      rw [strs_len hdv, List.length_cons, denseP_len, List.length_map]
      omega
    have hz3 : svals.length ≤ 900 := by
      have := sparseP_len (dn.map prOf) (Str.ofString "")
      rw [List.length_map] at this
      rw [strs_len hsv, List.length_cons]
      omega
    clear sub1
    unfold fr_law at F1
    k_with_none
    k_with "subscriptTail" => (k_here; (with_reducible show wpAny _ _ (subscriptTail _ _ (Value.ref 303) (Value.int _ _)) _ _ _); k_dflt (refine' Mine.modes_item ?k1 ?k2 ?_ ?k3; (case k1 => k_asm); (case k2 => k_asm); (case k3 => intro _; with_unfolding_all rfl); k_whole); intro a' t1' t2' hT')
    k_with "subscriptTail Tuple" => (k_here; (with_reducible show wpAny _ _ (subscriptTail _ _ (Value.ref _) (Value.int _ _)) _ _ _); k_dflt (refine' Mine.name_item ?k1 ?k2 ?_ ?k3; (case k1 => k_asm); (case k2 => k_mem); (case k3 => intro _; with_unfolding_all rfl); k_whole); intro t4')
    k_with "call builtin:list.append" => (k_here; k_dflt (refine' Mine.append_up ?k1 ?k2 ?k3 ?k4 ?_; (case k1 => k_asm); (case k2 => k_asm); (case k3 => k_upd); (case k4 => assumption); k_whole); intro h' F' N'; (try k_sweep))
    k_with "call builtin:list.extend" => (k_here; k_dflt (refine' Mine.extend_up ?k1 ?k2 ?k3 ?k4 ?k5 ?k6 ?_; (case k1 => k_asm); (case k2 => k_asm); (case k3 => k_mem); (case k4 => exact List.cons_ne_nil _ _); (case k5 => k_upd); (case k6 => (simp only [List.length_cons, List.length_nil]; omega)); k_whole); intro h' F' N'; (try k_sweep))
    k_steps
    · rename (_ == _) = true => hb
      exact turn1_end (us := [_]) (by k_asm) (by k_asm) hns' hr hrw hdv hsv (by rw [hb]; exact .cons _ _ .nil) htp c1 c2
    · rename (_ == _) = false => hb
      exact turn1_end (us := [_, _]) (by k_asm) (by k_asm) hns' hr hrw hdv hsv (by rw [hb]; exact .cons _ _ (.cons _ _ .nil)) htp c1 c2
  case done =>
    clear lF' N9
    rintro i m₁ news₁ h tk ⟨dn, rm, nm, md, wd, nu, ati, ul, refs, nr, dvals, nd, svals, nsv, tups, hns', hr, hrw, hdv, hsv, htp, rfl, rfl⟩ hl F1 N1
    cases hr
    rw [List.append_nil] at hns'
    subst hns'
    obtain ⟨tups, hts, hto, hrw⟩ := rows_own hrw
    replace N1 := news_sub N1 (law_sub0 hts)
    replace htp := hto.cls
    have sub1 : ∀ p ∈ tups, p ∈ (sl, listOf svals.toArray nsv) :: (dl, listOf dvals.toArray nd) :: (rl, listOf refs.toArray nr) :: (tups ++ [(cl, listOf ws.toArray 0), (310, tabObj #[])]) := fun p hp => .tail _ (.tail _ (.tail _ (List.mem_append_left _ hp)))
    have ts : ∀ p ∈ tups, p.1 ≠ sl := tupL_ne N1 sub1 htp (.head _) tup_list
    have td : ∀ p ∈ tups, p.1 ≠ dl := tupL_ne N1 sub1 htp (.tail _ (.head _)) tup_list
    have tr : ∀ p ∈ tups, p.1 ≠ rl := tupL_ne N1 sub1 htp (.tail _ (.tail _ (.head _))) tup_list
    have tt : ∀ p ∈ tups, p.1 ≠ 310 := tupL_ne N1 sub1 htp (.tail _ (.tail _ (.tail _ (List.mem_append_right _ (.tail _ (.head _)))))) (Ne.symm none_ne)
    have N2 : News _ _ _ ((310, tabObj #[]) :: (sl, listOf svals.toArray nsv) :: (dl, listOf dvals.toArray nd) :: (rl, listOf refs.toArray nr) :: tups) := news_sub N1 law_sub1
    clear N1 sub1 hl
    have hpk := pairs_ok ns
    have hok : RowsOk (rowsP (ns.map prOf)) := rows_ok ns
    have hrz : refs.length ≤ 1000 := by
      rw [hrw.length, rowsP, List.length_map, List.length_map]
      omega
    have hne : ns.map prOf ≠ [] := law_ne hns
    have hdl := denseP_len (ns.map prOf)
    have hsl := sparseP_len (ns.map prOf) (Str.ofString "")
    rw [List.length_map] at hdl hsl
    have hdv0 := hdv
    rw [← flat_one] at hdv hdl
    rw [← flat_grp hpk] at hsv hsl
    have hrw1 : RowsIn tups refs (rowsOf (one (ns.map prOf))) := by rw [rows_one]; exact hrw
    have hrw2 : RowsIn tups refs (rowsOf (grp (ns.map prOf))) := by rw [rows_grp]; exact hrw
    unfold fr_law at F1
    k_with_none
    k_with "eval Lambda" => (k_here; kn_here; k_dflt (refine' kla_eval ?d0 ?_; (case d0 => exact rfl)); k_dflt (refine' kla_nest ?F ?N ?T ?C ?cd ?U ?t ?n ?cl ?_; (case F => k_asm); (case N => k_asm); (case T => k_asm); (case cd => exact rfl); (case C => kn_code); (case U => k_updF); (case t => kn_triples); (case n => kn_among); (case cl => exact rfl); k_whole); intro fL cL ocL vsL tL ctL h' tk' F' N' d1L d2L l1L l2L; (try dsimp only at N'); (try k_lt l1L); (try k_lt2 l2L))
    k_with "call ref" => (k_here; (with_reducible show wpAny _ _ (call (Value.ref 308) _) _ _ _); k_dflt (refine' Mine.Does.useP ((310, _) :: (sl, listOf svals.toArray nsv) :: (rl, listOf refs.toArray nr) :: tups) (Mine.law_open hdv (ok_one hpk) (one_ne hne) (by omega) (by rw [← hrw1.length]; exact hrz) d1L d2L) ?k1 ?k2 ?k3 ?k4 ?kS ?k5 ?k6 ?k7 ?k8 ?kA ?_; (case k1 => k_asm); (case k2 => k_asm); (case k3 => k_asm); (case k4 => k_asm); (case kS => (repeat' (first | exact List.forall_mem_nil _ | refine List.forall_mem_cons.mpr ⟨by k_mem, ?_⟩ | refine List.forall_mem_append.mpr ⟨?_, ?_⟩ | (intro p hp; k_mem)))); (case k5 => k_asm); (case k6 => exact rfl); (case k7 => ktr_room); (case k8 => ktr_units); (case kA => exact Mine.law_apart ⟨l1L.1, l1L.2.1, l1L.2.2.1, l1L.2.2.2.1, l1L.2.2.2.2⟩ l2L n1 n4 n8 td); k_whole); intro r' n' h' tk' F' N' ap' hr'; (try k_sweep); obtain ⟨t9, new9, e1, hT9, e2⟩ := hr'; subst e1; subst e2; k_dflt (obtain ⟨t8, u9, refs9, tups9, hrw9, e3⟩ := hT9); subst e3; (all_goals (try simp only [List.nil_append, List.cons_append] at N')); k_dflt (replace N' := Mine.news_sub N' Mine.law_sub2))
    k_with "compareOp NotEq ref ref" => (k_here; k_dflt (refine' Mine.ne_told ?k1 ?k2 ?k3 ?k4 ?k5 hrw9 ?k6 hrw1 ?k7 ?k8 ?k9 ?kU ?_; (case k1 => k_asm); (case k2 => k_mem); (case k3 => k_mem); (case k4 => k_mem); (case k5 => k_mem); (case k6 => (intro p hp; (repeat (refine List.mem_cons_of_mem _ ?_)); first | exact List.mem_append_left _ hp | exact List.mem_append_right _ hp)); (case k7 => (intro p hp; (repeat (refine List.mem_cons_of_mem _ ?_)); first | exact List.mem_append_left _ hp | exact List.mem_append_right _ hp)); (case k8 => (rw [rows_one]; exact hok)); (case k9 => decide +kernel); (case kU => ktr_units); k_whole))
    k_with "call type:tuple" => (k_here; (with_reducible show wpAny _ _ (call (Value.type _) [Value.ref _]) _ _ _); k_dflt (refine' Mine.tuple_mem ?k1 ?k2 ?k3 ?k4 ?_; (case k1 => k_asm); (case k2 => k_asm); (case k3 => k_mem); (case k4 => assumption); k_whole); intro D' h' F' N' l1; (try k_sweep); (try simp only [List.forall_mem_cons] at l1); (repeat (obtain ⟨la, l1⟩ := l1)))
    k_with "eval Lambda" => ((have hq9 := hrw9); clear hq9; refine Mine.Hold.out ?_)
    k_steps
    unfold Hold
    rename_i F3 N3 x3
    replace N3 : News _ _ _ ((310, tabObj (#[] ++ #[_, _, _])) :: (sl, listOf svals.toArray nsv) :: (dl, listOf dvals.toArray nd) :: (rl, listOf refs.toArray nr) :: tups) := news_sub N3 (by repeat' (first | exact List.forall_mem_nil _ | refine List.forall_mem_cons.mpr ⟨by k_mem, ?_⟩ | (intro p hp; (repeat (refine List.mem_cons_of_mem _ ?_)); exact List.mem_append_left _ hp)))
    clear d1L d2L l1L l2L hrw9 x3
    k_with_none
    k_with "eval Lambda" => (k_here; kn_here; k_dflt (refine' kla_eval ?d0 ?_; (case d0 => exact rfl)); k_dflt (refine' kla_nest ?F ?N ?T ?C ?cd ?U ?t ?n ?cl ?_; (case F => k_asm); (case N => k_asm); (case T => k_asm); (case cd => exact rfl); (case C => kn_code); (case U => k_updF); (case t => kn_triples); (case n => kn_among); (case cl => exact rfl); k_whole); intro fL cL ocL vsL tL ctL h' tk' F' N' d1L d2L l1L l2L; (try dsimp only at N'); (try k_lt l1L); (try k_lt2 l2L))
    k_with "call ref" => (k_here; (with_reducible show wpAny _ _ (call (Value.ref 308) _) _ _ _); k_dflt (refine' Mine.Does.useP ((310, _) :: (dl, listOf dvals.toArray nd) :: (rl, listOf refs.toArray nr) :: tups) (Mine.law_open hsv (ok_grp hpk) (grp_ne hne) (by omega) (by rw [← hrw2.length]; exact hrz) d1L d2L) ?k1 ?k2 ?k3 ?k4 ?kS ?k5 ?k6 ?k7 ?k8 ?kA ?_; (case k1 => k_asm); (case k2 => k_asm); (case k3 => k_asm); (case k4 => k_asm); (case kS => (repeat' (first | exact List.forall_mem_nil _ | refine List.forall_mem_cons.mpr ⟨by k_mem, ?_⟩ | refine List.forall_mem_append.mpr ⟨?_, ?_⟩ | (intro p hp; k_mem)))); (case k5 => k_asm); (case k6 => exact rfl); (case k7 => ktr_room); (case k8 => ktr_units); (case kA => exact Mine.law_apart ⟨l1L.1, l1L.2.2.1, l1L.2.1, l1L.2.2.2.1, l1L.2.2.2.2⟩ l2L (Ne.symm n1) n2 n7 ts); k_whole); intro r' n' h' tk' F' N' ap' hr'; (try k_sweep); obtain ⟨t9, new9, e1, hT9, e2⟩ := hr'; subst e1; subst e2; k_dflt (obtain ⟨t8, u9, refs9, tups9, hrw9, e3⟩ := hT9); subst e3; (all_goals (try simp only [List.nil_append, List.cons_append] at N')); k_dflt (replace N' := Mine.news_sub N' Mine.law_sub2))
    k_with "compareOp NotEq ref ref" => (k_here; k_dflt (refine' Mine.ne_told ?k1 ?k2 ?k3 ?k4 ?k5 hrw9 ?k6 hrw2 ?k7 ?k8 ?k9 ?kU ?_; (case k1 => k_asm); (case k2 => k_mem); (case k3 => k_mem); (case k4 => k_mem); (case k5 => k_mem); (case k6 => (intro p hp; (repeat (refine List.mem_cons_of_mem _ ?_)); first | exact List.mem_append_left _ hp | exact List.mem_append_right _ hp)); (case k7 => (intro p hp; (repeat (refine List.mem_cons_of_mem _ ?_)); first | exact List.mem_append_left _ hp | exact List.mem_append_right _ hp)); (case k8 => (rw [rows_grp]; exact hok)); (case k9 => decide +kernel); (case kU => ktr_units); k_whole))
    k_with "call type:tuple" => (k_here; (with_reducible show wpAny _ _ (call (Value.type _) [Value.ref _]) _ _ _); k_dflt (refine' Mine.tuple_mem ?k1 ?k2 ?k3 ?k4 ?_; (case k1 => k_asm); (case k2 => k_asm); (case k3 => k_mem); (case k4 => assumption); k_whole); intro D' h' F' N' l1; (try k_sweep); (try simp only [List.forall_mem_cons] at l1); (repeat (obtain ⟨la, l1⟩ := l1)))
    k_with "call builtin:len" => (k_here; (with_reducible show wpAny _ _ (call (Value.builtin "len") [Value.ref _]) _ _ _); k_dflt (refine' Mine.len_mem ?k1 ?k2 ?k3 ?_; (case k1 => k_asm); (case k2 => k_mem); (case k3 => omega); k_whole))
    k_with "call type:range" => (refine Mine.Hold.out ?_)
    k_steps
    unfold Hold
    rename_i gl y20 l4 y21 F4 N4
    have g1 : @Ne Nat gl sl := by omega
    have g2 : @Ne Nat gl dl := by omega
    have g3 : @Ne Nat gl rl := by omega
    have g4 : @Ne Nat gl 310 := by omega
    replace N4 : News _ _ _ ((310, tabObj (#[] ++ #[_, _, _] ++ #[_, _, _])) :: (gl, listOf [].toArray 0) :: (sl, listOf svals.toArray nsv) :: (dl, listOf dvals.toArray nd) :: (rl, listOf refs.toArray nr) :: tups) := news_sub N4 (by repeat' (first | exact List.forall_mem_nil _ | refine List.forall_mem_cons.mpr ⟨by k_mem, ?_⟩ | (intro p hp; (repeat (refine List.mem_cons_of_mem _ ?_)); exact List.mem_append_left _ hp)))
    clear d1L d2L l1L l2L hrw9 l4
    refine call_loop (n := refs.length) hrz rfl F4 N4 (Turn2 _ (rawInt ((168 : Nat) : Int)) (rawInt ((66 : Nat) : Int)) lawQ (ns.map prOf) _ gl sl dl rl _ _ _ tups) ⟨none, _, _, [], [], 0, [], .inl ⟨rfl, rfl⟩, .nil, (fun _ h => nomatch h), (fun _ h => nomatch h), fr_at_start rfl, by rw [List.append_nil, List.append_nil]⟩ ?turn2 ?done2
    case turn2 =>
      clear F4 N4
      rintro i m₁ news₁ t h tk I o hi ⟨td, ati2, ps, ext, grefs, ng, gt, hps, hgr, hgt, hex, rfl, rfl⟩ hoI F5 N5
      obtain ⟨c, hc⟩ : ∃ c, (ns.map prOf)[i]? = some c := ⟨_, List.getElem?_eq_getElem (by rw [List.length_map]; rw [hrw.length, rowsP, List.length_map, List.length_map] at hi; exact hi)⟩
      have hus := pick_at hdv0 hc
      have hul := strs_len hus
      have hdz : dvals.length ≤ 1000 := by
        rw [strs_len hdv0, List.length_cons]
        have := denseP_len (ns.map prOf)
        rw [List.length_map] at this
        omega
      have hck := hpk c (List.mem_of_getElem? hc)
      unfold fr_at at F5
      k_with_none
      k_with "subscriptTail Name Slice ref ref" => (k_here; k_dflt (refine' Mine.slice_mem ?k1 ?k2 ?k3 ?k4 ?k5 ?k6 ?k7 ?_ ?k8 ?k9; (case k1 => k_asm); (case k2 => k_asm); (case k3 => k_mem); (case k4 => kmk_part); (case k5 => kmk_part); (case k6 => exact rfl); (case k7 => assumption); (case k8 => with_unfolding_all rfl); (case k9 => kmk_pure); k_whole); intro D' h' F' N' l1; (try k_lt l1); (try k_sweep))
      k_with "binaryOp Add ref ref" => (k_here; k_dflt (refine' Mine.add_mem ?k1 ?k2 ?k3 ?k4 ?k5 ?_; (case k1 => k_asm); (case k2 => k_asm); (case k3 => k_mem); (case k4 => k_mem); (case k5 => (simp only [List.length_cons, List.length_nil] at *; omega)); k_whole); intro wl3 h' F' N' lw3; (try k_lt lw3); (try k_sweep))
      k_with "eval Lambda" => (refine Mine.Hold.out ?_)
      k_steps
      unfold Hold
      have N6 := N'
      clear N'
      have hI : ∀ p ∈ ext, p.1 ≠ I := fun p hp => hoI p (.tail _ (.tail _ (.tail _ (.tail _ (.tail _ (List.mem_append_right _ (List.mem_append_right _ hp)))))))
      have h310 : @Ne Nat 310 I := hoI (310, tabObj ps) (.head _)
      have hgI : @Ne Nat gl I := hoI (gl, _) (.tail _ (.head _))
      have hns14 : (rowsP ((ns.map prOf).take i)).length ≤ 14 := by
        rw [rowsP, List.length_map, List.length_take, List.length_map]
        omega
      have hoI2 : ∀ p ∈ (310, tabObj ps) :: (gl, listOf grefs.toArray ng) :: (sl, listOf svals.toArray nsv) :: (dl, listOf dvals.toArray nd) :: (rl, listOf refs.toArray nr) :: (tups ++ gt), p.1 ≠ I := fun p hp => hoI p (turn2_in p hp)
      have hgg : ∀ p ∈ gt, p.1 ≠ gl := tupL_ne N6 (fun p hp => turn2_in2 (List.mem_append_right _ (List.mem_append_left _ hp))) hgt.cls (by k_mem) tup_list
      have hgn : ∀ p ∈ gt, p.1 ≠ 310 := tupL_ne N6 (fun p hp => turn2_in2 (List.mem_append_right _ (List.mem_append_left _ hp))) hgt.cls (by k_mem) (Ne.symm none_ne)
      have htg : ∀ p ∈ tups, p.1 ≠ gl := tupL_ne N6 (fun p hp => turn2_in2 (List.mem_append_left _ hp)) htp (by k_mem) tup_list
      have hap := ext_apart (wl := wl3) (I := I) (gl := gl) (sl := sl) (dl := dl) (rl := rl) (tups := tups) (gt := gt) N6 hps turn2_in3 (fun p hp => turn2_in2 (List.mem_append_right _ (List.mem_append_right _ hp))) hI (turn2_seq hto hgt)
      replace N6 := news_sub N6 turn2_sub
      have hg1 : GOk [(c.1, [c.2])] := ok_one (cs := [c]) fun d hd => by rw [List.mem_singleton.mp hd]; exact hck
      k_dflt (refine' kla_eval ?d0 ?_; (case d0 => exact rfl))
      k_dflt (refine' lam_any (by k_asm) N6 (by k_asm) codeHd rfl (turn2_310 hex (Nat.ne_of_gt lw3.2.2.2.1) h310 g4 n7 n8 n9 tt hgn) hap hps ?kt ?kn ?kt3 ?kf3 ?kcl ?_)
      case kt => kn_triples
      case kn => kn_among
      case kt3 => intro c3; kn_triples
      case kf3 => intro c3; kn_hit
      case kcl => exact rfl
      k_whole
      intro fL cL ocL vsL tL ctL h' tk' F' N' d1L d2L l1L l2L
      k_with_none
      k_with "call ref" => (k_here; (with_reducible show wpAny _ _ (call (Value.ref 308) _) _ _ _); k_dflt (refine' Mine.Does.useP ((310, _) :: (I, o) :: (gl, listOf grefs.toArray ng) :: (sl, listOf svals.toArray nsv) :: (dl, listOf dvals.toArray nd) :: (rl, listOf refs.toArray nr) :: (tups ++ gt)) (Mine.law_open (gs := [(c.1, [c.2])]) (Mine.told_words hus) hg1 (List.cons_ne_nil _ _) (by show 2 ≤ 80; decide) (by show 1 ≤ 1000; decide) d1L d2L) ?k1 ?k2 ?k3 ?k4 ?kS ?k5 ?k6 ?k7 ?k8 ?kA ?_; (case k1 => k_asm); (case k2 => k_asm); (case k3 => k_asm); (case k4 => k_asm); (case kS => (repeat' (first | exact List.forall_mem_nil _ | refine List.forall_mem_cons.mpr ⟨by k_mem, ?_⟩ | refine List.forall_mem_append.mpr ⟨?_, ?_⟩ | (intro p hp; k_mem)))); (case k5 => k_asm); (case k6 => exact rfl); (case k7 => ktr_room); (case k8 => ktr_units); (case kA => exact Mine.apart3 (Mine.turn2_wl lw3) (Mine.ex_ne l2L) (Mine.ex_ne l1L)); k_whole); intro r' n' h' tk' F' N' ap' hr'; (try k_sweep); obtain ⟨t9, new9, e1, hT9, e2⟩ := hr'; subst e1; subst e2; k_dflt (obtain ⟨t8, u9, refs9, tups9, hrw9, e3⟩ := hT9); subst e3; (all_goals (try simp only [List.nil_append, List.cons_append] at N' ap')); k_dflt (have hu3 := Mine.turn2_ne ap' g1 g2 g3 (List.forall_mem_append.mpr ⟨htg, hgg⟩)); have hne9 : refs9 ≠ [] := Mine.refs_ne hrw9; have hz9 : grefs.length + refs9.length ≤ 1000 := Mine.turn2_len hgr hrw9 hns14; k_dflt (replace N' := Mine.news_sub N' Mine.law_sub3))
      k_with "call builtin:list.extend" => (k_here; k_dflt (refine' Mine.extend_tup ?k1 ?k2 ?k3 ?k4 ?k5 ?k6 ?_; (case k1 => k_asm); (case k2 => k_asm); (case k3 => k_mem); (case k4 => exact hne9); (case k5 => exact Upd.tail (Ne.symm hgI) (Upd.tail (Ne.symm g4) (Upd.head hu3))); (case k6 => exact hz9); k_whole); intro h' F' N'; (try k_sweep))
      k_with "subscriptTail Name Constant ref int" => (k_here; (with_reducible show wpAny _ _ (subscriptTail _ _ (Value.ref t9) (Value.int 0 _)) _ _ _); k_dflt (refine' Mine.tup_item0 ?k1 ?k2 ?_ ?k6; (case k1 => k_asm); (case k2 => k_mem); (case k6 => with_unfolding_all rfl); k_whole))
      k_with "subscriptTail Name Constant ref int" => (k_here; (with_reducible show wpAny _ _ (subscriptTail _ _ (Value.ref t9) (Value.int 1 _)) _ _ _); k_dflt (refine' Mine.tup_item1 ?k1 ?k2 ?_ ?k6; (case k1 => k_asm); (case k2 => k_mem); (case k6 => with_unfolding_all rfl); k_whole))
      k_with "call builtin:len" => (k_here; k_dflt (refine' Mine.tup_len ?k1 ?k2 ?_; (case k1 => k_asm); (case k2 => k_mem); k_whole))
      k_steps
      exact turn2_end (by k_asm) (by k_asm) ap' hoI2 h310 hc hgr hgt hrw9 d1L d2L (Ne.symm (l1L (310, tabObj ps) (.head _)))
    case done2 =>
      clear F4 N4
      rintro m₁ news₁ h tk ⟨td, ati2, ps, ext, grefs, ng, gt, hps, hgr, hgt, hex, rfl, rfl⟩ F5 N5
      have hgr2 : RowsIn gt grefs (rowsP (ns.map prOf)) := by
        rw [List.take_of_length_le (by have hl := hrw.length; rw [rowsP, List.length_map] at hl; omega)] at hgr
        exact hgr
      unfold fr_at at F5
      k_with_none
      k_with "exec Assign cons ListComp" => (k_here; k_dflt (refine LCp.Assign_ListComp_P (F₀ := by k_asm) (by rfl) (by with_unfolding_all rfl) (by with_unfolding_all rfl) (by decide) (by rfl) (by decide) (by rfl) (by rfl) (by decide) (by rfl) (by rfl) ?_))
      k_with "SrcLP" => (refine Mine.Hold.out ?_)
      k_steps
      unfold Hold
      refine LCp.SrcLP.ledger rfl (by k_asm) N5 (.tail _ (.tail _ (.tail _ (.tail _ (.head _))))) (by rw [List.size_toArray]; exact Nat.le_trans hrz (by decide)) (fun gg => names_rest (rs := rowsP (ns.map prOf)) (tups := tups) hrw (fun p hp => .tail _ (.tail _ (.tail _ (.tail _ (.tail _ (List.mem_append_left _ hp)))))) (.inr ⟨_, .tail _ (.tail _ (.tail _ (.tail _ (.head _)))), rfl, _, rfl⟩) (fun _ => rfl) (fun _ => rfl) (by decide) ?_ _ 0 [] (Nat.zero_add _) .nil)
      rintro ys hys D h tk F6 N6 off6
      have hyl : ys.length ≤ 80 := by
        rw [strs_len hys, rowsP, List.length_map, List.length_map, List.length_map]
        omega
      have hyl2 : ys.length ≤ 1000 := Nat.le_trans hyl (by decide)
      have hn80 : ((rowsP (ns.map prOf)).map (·.2)).length ≤ 80 := by rw [← strs_len hys]; exact hyl
      replace N6 : News _ _ _ ((D, listOf ys.toArray ys.length) :: (310, tabObj ps) :: (gl, listOf grefs.toArray ng) :: (sl, listOf svals.toArray nsv) :: (dl, listOf dvals.toArray nd) :: (rl, listOf refs.toArray nr) :: (tups ++ (gt ++ ext))) := N6
      have hT4 : TriplesOk ps.toList := by
        rcases hps with ⟨rfl, _⟩ | ⟨c3, oc3, fs, t', rfl, _⟩ <;> kn_triples
      have hn4 : ∀ a b, codeAmong { line := 173, col := 59, endLine := a, endCol := b } ps.toList = none := by
        intro a b
        rcases hps with ⟨rfl, _⟩ | ⟨c3, oc3, fs, t', rfl, _⟩ <;> kn_among
      k_with_none
      k_with "compareOp Eq ref ref" => (k_here; (with_reducible show wpAny _ _ (compareOp .Eq (Value.ref gl) (Value.ref rl)) _ _ _); k_dflt (refine' Mine.eq_lists ?k1 ?k2 ?k3 hgr2 ?k4 hrw ?k5 hok ?kU ?_; (case k1 => k_asm); (case k2 => k_mem); (case k3 => k_mem); (case k4 => (intro p hp; (repeat (refine List.mem_cons_of_mem _ ?_)); exact List.mem_append_right _ (List.mem_append_left _ hp))); (case k5 => (intro p hp; (repeat (refine List.mem_cons_of_mem _ ?_)); first | exact List.mem_append_left _ hp | exact List.mem_append_right _ hp)); (case kU => ktr_units); k_whole))
      k_with "binaryOp Add ref ref" => (k_here; k_dflt (refine' Mine.add_mem ?k1 ?k2 ?k3 ?k4 ?k5 ?_; (case k1 => k_asm); (case k2 => k_asm); (case k3 => k_mem); (case k4 => k_mem); (case k5 => (simp only [List.length_cons, List.length_nil] at *; omega)); k_whole); intro wl3 h' F' N' lw3; (try k_lt lw3); (try k_sweep))
      k_with "eval Lambda" => (refine Mine.Hold.out ?_)
      k_steps
      unfold Hold
      replace N' : News _ _ _ ((310, tabObj ps) :: (wl3, listOf ([Value.str (Str.ofString "CLOSE") _] ++ ys).toArray 0) :: [(D, listOf ys.toArray ys.length)]) := news_sub N' (by repeat' (first | exact List.forall_mem_nil _ | refine List.forall_mem_cons.mpr ⟨by k_mem, ?_⟩))
      have w1 : @Ne Nat D 310 := Ne.symm off6.1
      have w2 : @Ne Nat wl3 310 := Nat.ne_of_gt lw3.2.2.1
      have w3 : @Ne Nat D wl3 := Nat.ne_of_lt lw3.2.1
      clear off6 lw3
      k_dflt (refine' kla_eval ?d0 ?_; (case d0 => exact rfl))
      k_dflt (refine' kla_nest (by k_asm) N' (by k_asm) codeHd rfl (.head ?kU) hT4 (hn4 _ _) ?kcl ?_)
      case kU => exact List.forall_mem_cons.mpr ⟨w2, List.forall_mem_cons.mpr ⟨w1, List.forall_mem_nil _⟩⟩
      case kcl => exact rfl
      k_whole
      intro fL cL ocL vsL tL ctL h' tk' F' N' d1L d2L l1L l2L
      have q1 : @LT.lt Nat _ 310 cL := l1L (310, _) (.head _)
      have q2 : @LT.lt Nat _ wl3 cL := l1L (wl3, _) (.tail _ (.head _))
      have q3 : @LT.lt Nat _ D cL := l1L (D, _) (.tail _ (.tail _ (.head _)))
      try dsimp only at N'
      k_with_none
      k_with "call ref" => (k_here; (with_reducible show wpAny _ _ (call (Value.ref 308) _) _ _ _); k_dflt (refine' Mine.Does.useP [(310, _), (D, listOf ys.toArray ys.length), (D, listOf ys.toArray ys.length)] (Mine.law_close (Mine.close_hv hys) (Mine.names_one hne) (Mine.names_ok hpk) hn80 d1L d2L) ?k1 ?k2 ?k3 ?k4 ?kS ?k5 ?k6 ?k7 ?k8 ?kA ?_; (case k1 => k_asm); (case k2 => k_asm); (case k3 => k_asm); (case k4 => k_asm); (case kS => (repeat' (first | exact List.forall_mem_nil _ | refine List.forall_mem_cons.mpr ⟨by k_mem, ?_⟩ | refine List.forall_mem_append.mpr ⟨?_, ?_⟩ | (intro p hp; k_mem)))); (case k5 => k_asm); (case k6 => exact rfl); (case k7 => ktr_room); (case k8 => ktr_units); (case kA => exact Mine.law_apart ⟨q1, q3, q2, q3, trivial⟩ l2L w3 (Ne.symm w3) w2 (fun _ h => nomatch h)); k_whole); intro r' n' h' tk' F' N' ap' hr'; (try k_sweep); obtain ⟨t9, new9, e1, hT9, e2⟩ := hr'; subst e1; subst e2; k_dflt (obtain ⟨t8, u9, vals9, hv9, e3⟩ := hT9); subst e3; (all_goals (try simp only [List.nil_append, List.cons_append] at N')))
      k_with "call type:tuple" => (k_here; (with_reducible show wpAny _ _ (call (Value.type _) [Value.ref _]) _ _ _); k_dflt (refine' Mine.tuple_mem ?k1 ?k2 ?k3 ?k4 ?_; (case k1 => k_asm); (case k2 => k_asm); (case k3 => k_mem); (case k4 => assumption); k_whole); intro D' h' F' N' l1; (try k_sweep); (try simp only [List.forall_mem_cons] at l1); (repeat (obtain ⟨la, l1⟩ := l1)))
      k_with "compareOp Eq ref ref" => (k_here; k_dflt (refine' Mine.eq_closed ?k1 ?k2 ?k3 ?k4 ?k5 hv9 hys (Mine.names_str hok) ?k9 ?kU ?_; (case k1 => k_asm); (case k2 => k_mem); (case k3 => k_mem); (case k4 => k_mem); (case k5 => k_mem); (case k9 => decide +kernel); (case kU => ktr_units); k_whole))
      k_steps
theorem Mine.kNoneL1 : True := by
  k_with_none
  w_top off
  exact trivial
end L1
theorem PySem.Challenge.cw_pb0252_01_holds : PySem.Challenge.rw_pb0252_01.Holds :=
  Mine.law0
