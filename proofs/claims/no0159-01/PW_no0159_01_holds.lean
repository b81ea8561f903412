import PyProof.Rows.All
import Wide.All
import OpenK.AllK
import Wide.FinOn
import PySem.Challenge.RW_no0159_01
set_option maxRecDepth 100000
set_option Elab.async false
set_option linter.unusedVariables false
set_option linter.unusedSimpArgs false
namespace Mine
open PySem PySem.W PySem.Calls PyProof.Rows
noncomputable abbrev pw0 : Program := PySem.Challenge.rw_no0159_01.row.prog
noncomputable def fnO (st : Option Stmt) (q : String) (dV : Value) (md : String) (tk code : Nat) : Obj := match st with
  | some (.FunctionDef nm args body _ _ _ sc _ _ _) => { cls := .type "function", data := .func { name := nm, qualname := Str.ofString q, params := args, body := .stmts body, scope := sc, globals := 3, closure := [], defaults := dV, kwdefaults := .none, pyModule := .str (Str.ofString md) tk, code := .ref code } }
  | _ => default
noncomputable def clsB (st : Option Stmt) : Option Stmt := match st with
  | some (.ClassDef _ _ _ (b :: _) _ _ _ _ _ _ _) => some b
  | _ => none
noncomputable def kFrag (P : Params) : Frag := [
  (3, { cls := .type "dict", data := .dict #[{ hash := PyData.keyHash P (Str.ofString "__name__"), key := .str (Str.ofString "__name__") 165, val := .str (Str.ofString "law_no0159_01") 391 }, { hash := PyData.keyHash P (Str.ofString "__doc__"), key := .str (Str.ofString "__doc__") 166, val := .none }, { hash := PyData.keyHash P (Str.ofString "__package__"), key := .str (Str.ofString "__package__") 167, val := .none }, { hash := PyData.keyHash P (Str.ofString "__loader__"), key := .str (Str.ofString "__loader__") 168, val := .builtin "__main__.__loader__#opaque" }, { hash := PyData.keyHash P (Str.ofString "__spec__"), key := .str (Str.ofString "__spec__") 169, val := .none }, { hash := PyData.keyHash P (Str.ofString "__annotations__"), key := .str (Str.ofString "__annotations__") 170, val := .ref 6 }, { hash := PyData.keyHash P (Str.ofString "__builtins__"), key := .str (Str.ofString "__builtins__") 171, val := .ref 4 }, { hash := PyData.keyHash P (Str.ofString "__file__"), key := .str (Str.ofString "__file__") 173, val := .str (Str.ofString "/claim/cut.py") 172 }, { hash := PyData.keyHash P (Str.ofString "__cached__"), key := .str (Str.ofString "__cached__") 174, val := .none }, { hash := PyData.keyHash P (Str.ofString "ClausemillError"), key := .str (Str.ofString "ClausemillError") 208, val := .ref 24 }, { hash := PyData.keyHash P (Str.ofString "LinkFault"), key := .str (Str.ofString "LinkFault") 234, val := .ref 45 }, { hash := PyData.keyHash P (Str.ofString "CON"), key := .str (Str.ofString "CON") 236, val := .int 4 235 }, { hash := PyData.keyHash P (Str.ofString "INT"), key := .str (Str.ofString "INT") 238, val := .int 5 237 }, { hash := PyData.keyHash P (Str.ofString "FAIL_ADDRESS"), key := .str (Str.ofString "FAIL_ADDRESS") 242, val := .int 2 241 }, { hash := PyData.keyHash P (Str.ofString "shapes"), key := .str (Str.ofString "shapes") 248, val := .ref 54 }, { hash := PyData.keyHash P (Str.ofString "is_whole"), key := .str (Str.ofString "is_whole") 255, val := .ref 61 }, { hash := PyData.keyHash P (Str.ofString "is_pair"), key := .str (Str.ofString "is_pair") 262, val := .ref 68 }, { hash := PyData.keyHash P (Str.ofString "is_register"), key := .str (Str.ofString "is_register") 270, val := .ref 75 }, { hash := PyData.keyHash P (Str.ofString "is_constant"), key := .str (Str.ofString "is_constant") 277, val := .ref 82 }, { hash := PyData.keyHash P (Str.ofString "is_functor"), key := .str (Str.ofString "is_functor") 284, val := .ref 89 }, { hash := PyData.keyHash P (Str.ofString "is_target"), key := .str (Str.ofString "is_target") 292, val := .ref 96 }, { hash := PyData.keyHash P (Str.ofString "is_key"), key := .str (Str.ofString "is_key") 300, val := .ref 103 }, { hash := PyData.keyHash P (Str.ofString "is_table"), key := .str (Str.ofString "is_table") 311, val := .ref 110 }, { hash := PyData.keyHash P (Str.ofString "is_operand"), key := .str (Str.ofString "is_operand") 320, val := .ref 117 }, { hash := PyData.keyHash P (Str.ofString "check_row"), key := .str (Str.ofString "check_row") 332, val := .ref 124 }, { hash := PyData.keyHash P (Str.ofString "is_label_row"), key := .str (Str.ofString "is_label_row") 339, val := .ref 131 }, { hash := PyData.keyHash P (Str.ofString "label_addresses"), key := .str (Str.ofString "label_addresses") 350, val := .ref 138 }, { hash := PyData.keyHash P (Str.ofString "resolve_label"), key := .str (Str.ofString "resolve_label") 359, val := .ref 145 }, { hash := PyData.keyHash P (Str.ofString "resolve_table"), key := .str (Str.ofString "resolve_table") 370, val := .ref 152 }, { hash := PyData.keyHash P (Str.ofString "resolve_instruction"), key := .str (Str.ofString "resolve_instruction") 384, val := .ref 159 }, { hash := PyData.keyHash P (Str.ofString "assemble"), key := .str (Str.ofString "assemble") 390, val := .ref 165 }, { hash := PyData.keyHash P (Str.ofString "_law_row"), key := .str (Str.ofString "_law_row") 403, val := .ref 172 }, { hash := PyData.keyHash P (Str.ofString "_law_next"), key := .str (Str.ofString "_law_next") 410, val := .ref 179 }, { hash := PyData.keyHash P (Str.ofString "_law_bad"), key := .str (Str.ofString "_law_bad") 416, val := .ref 186 }, { hash := PyData.keyHash P (Str.ofString "_law_label"), key := .str (Str.ofString "_law_label") 423, val := .ref 193 }, { hash := PyData.keyHash P (Str.ofString "_law_pairs"), key := .str (Str.ofString "_law_pairs") 434, val := .ref 200 }, { hash := PyData.keyHash P (Str.ofString "_law_real"), key := .str (Str.ofString "_law_real") 440, val := .ref 205 }, { hash := PyData.keyHash P (Str.ofString "_law_asked"), key := .str (Str.ofString "_law_asked") 446, val := .ref 210 }, { hash := PyData.keyHash P (Str.ofString "_law_block"), key := .str (Str.ofString "_law_block") 452, val := .ref 215 }, { hash := PyData.keyHash P (Str.ofString "_law_due"), key := .str (Str.ofString "_law_due") 467, val := .ref 222 }, { hash := PyData.keyHash P (Str.ofString "law"), key := .str (Str.ofString "law") 480, val := .ref 229 }] 41 }),
  (23, { cls := .type "dict", data := .dict #[{ hash := PyData.keyHash P (Str.ofString "__module__"), key := .str (Str.ofString "__module__") 196, val := .str (Str.ofString "clausemill.symbols") 187 }, { hash := PyData.keyHash P (Str.ofString "__firstlineno__"), key := .str (Str.ofString "__firstlineno__") 200, val := .int 2 199 }, { hash := PyData.keyHash P (Str.ofString "__static_attributes__"), key := .str (Str.ofString "__static_attributes__") 201, val := .ref 22 }, { hash := PyData.keyHash P (Str.ofString "__weakref__"), key := .str (Str.ofString "__weakref__") 203, val := .ref 25 }, { hash := PyData.keyHash P (Str.ofString "__doc__"), key := .str (Str.ofString "__doc__") 204, val := .none }] 3 }),
  (24, { cls := .type "type", data := .cls { name := Str.ofString "ClausemillError", bases := [.type "Exception"], mro := [.ref 24, .type "Exception", .type "BaseException", .type "object"], ns := 23, qualname := Str.ofString "ClausemillError", subclasses := [.ref 45] }, slots := #[some (.ref 15), none, some (.str (Str.ofString "ClausemillError") 189), some (.str (Str.ofString "ClausemillError") 197), some (.builtin "Exception.__new__"), some (.bool true)] }),
  (35, { cls := .type "tuple", data := .seq #[.str (Str.ofString "") 221] }),
  (42, fnO (clsB (pw0.main.body[2]?)) "LinkFault.__init__" (.ref 35) "clausemill.symbols" 187 41),
  (44, { cls := .type "dict", data := .dict #[{ hash := PyData.keyHash P (Str.ofString "__module__"), key := .str (Str.ofString "__module__") 216, val := .str (Str.ofString "clausemill.symbols") 187 }, { hash := PyData.keyHash P (Str.ofString "__firstlineno__"), key := .str (Str.ofString "__firstlineno__") 220, val := .int 4 219 }, { hash := PyData.keyHash P (Str.ofString "__init__"), key := .str (Str.ofString "__init__") 229, val := .ref 42 }, { hash := PyData.keyHash P (Str.ofString "__static_attributes__"), key := .str (Str.ofString "__static_attributes__") 231, val := .ref 43 }, { hash := PyData.keyHash P (Str.ofString "__doc__"), key := .str (Str.ofString "__doc__") 232, val := .none }] 2 }),
  (45, { cls := .type "type", data := .cls { name := Str.ofString "LinkFault", bases := [.ref 24], mro := [.ref 45, .ref 24, .type "Exception", .type "BaseException", .type "object"], ns := 44, qualname := Str.ofString "LinkFault" }, slots := #[some (.ref 28), none, some (.str (Str.ofString "LinkFault") 209), some (.str (Str.ofString "LinkFault") 217), some (.builtin "Exception.__new__"), some (.bool true)] }),
  (54, fnO (pw0.main.body[7]?) "shapes" (.none) "clausemill.assembler" 239 53),
  (61, fnO (pw0.main.body[8]?) "is_whole" (.none) "clausemill.assembler" 239 60),
  (68, fnO (pw0.main.body[9]?) "is_pair" (.none) "clausemill.assembler" 239 67),
  (75, fnO (pw0.main.body[10]?) "is_register" (.none) "clausemill.assembler" 239 74),
  (82, fnO (pw0.main.body[11]?) "is_constant" (.none) "clausemill.assembler" 239 81),
  (89, fnO (pw0.main.body[12]?) "is_functor" (.none) "clausemill.assembler" 239 88),
  (96, fnO (pw0.main.body[13]?) "is_target" (.none) "clausemill.assembler" 239 95),
  (103, fnO (pw0.main.body[14]?) "is_key" (.none) "clausemill.assembler" 239 102),
  (110, fnO (pw0.main.body[15]?) "is_table" (.none) "clausemill.assembler" 239 109),
  (117, fnO (pw0.main.body[16]?) "is_operand" (.none) "clausemill.assembler" 239 116),
  (124, fnO (pw0.main.body[17]?) "check_row" (.none) "clausemill.assembler" 239 123),
  (131, fnO (pw0.main.body[18]?) "is_label_row" (.none) "clausemill.assembler" 239 130),
  (138, fnO (pw0.main.body[19]?) "label_addresses" (.none) "clausemill.assembler" 239 137),
  (145, fnO (pw0.main.body[20]?) "resolve_label" (.none) "clausemill.assembler" 239 144),
  (152, fnO (pw0.main.body[21]?) "resolve_table" (.none) "clausemill.assembler" 239 151),
  (159, fnO (pw0.main.body[22]?) "resolve_instruction" (.none) "clausemill.assembler" 239 158),
  (160, { cls := .type "tuple", data := .seq #[.none] }),
  (165, fnO (pw0.main.body[23]?) "assemble" (.ref 160) "clausemill.assembler" 239 164),
  (172, fnO (pw0.main.body[25]?) "_law_row" (.none) "law_no0159_01" 391 171),
  (179, fnO (pw0.main.body[26]?) "_law_next" (.none) "law_no0159_01" 391 178),
  (186, fnO (pw0.main.body[27]?) "_law_bad" (.none) "law_no0159_01" 391 185),
  (193, fnO (pw0.main.body[28]?) "_law_label" (.none) "law_no0159_01" 391 192),
  (200, fnO (pw0.main.body[29]?) "_law_pairs" (.none) "law_no0159_01" 391 199),
  (205, fnO (pw0.main.body[30]?) "_law_real" (.none) "law_no0159_01" 391 204),
  (210, fnO (pw0.main.body[31]?) "_law_asked" (.none) "law_no0159_01" 391 209),
  (215, fnO (pw0.main.body[32]?) "_law_block" (.none) "law_no0159_01" 391 214),
  (222, fnO (pw0.main.body[33]?) "_law_due" (.none) "law_no0159_01" 391 221),
  (229, fnO (pw0.main.body[34]?) "law" (.none) "law_no0159_01" 391 228)]
noncomputable def kAs : List Addr := [3, 23, 24, 35, 42, 44, 45, 54, 61, 68, 75, 82, 89, 96, 103, 110, 117, 124, 131, 138, 145, 152, 159, 160, 165, 172, 179, 186, 193, 200, 205, 210, 215, 222, 229]
noncomputable def kCodes : List (Addr × Str) := [(41, Str.ofString "LinkFault.__init__"), (53, Str.ofString "shapes"), (60, Str.ofString "is_whole"), (67, Str.ofString "is_pair"), (74, Str.ofString "is_register"), (81, Str.ofString "is_constant"), (88, Str.ofString "is_functor"), (95, Str.ofString "is_target"), (102, Str.ofString "is_key"), (109, Str.ofString "is_table"), (116, Str.ofString "is_operand"), (123, Str.ofString "check_row"), (130, Str.ofString "is_label_row"), (137, Str.ofString "label_addresses"), (144, Str.ofString "resolve_label"), (151, Str.ofString "resolve_table"), (158, Str.ofString "resolve_instruction"), (164, Str.ofString "assemble"), (171, Str.ofString "_law_row"), (178, Str.ofString "_law_next"), (185, Str.ofString "_law_bad"), (192, Str.ofString "_law_label"), (199, Str.ofString "_law_pairs"), (204, Str.ofString "_law_real"), (209, Str.ofString "_law_asked"), (214, Str.ofString "_law_block"), (221, Str.ofString "_law_due"), (228, Str.ofString "law")]
noncomputable def codeNm (o : Obj) : Option Str := match o.data with
  | Data.fields (vs : Array Value) => (match (vs[1]? : Option Value) with
    | some (Value.str q _) => some q
    | _ => none)
  | _ => none
theorem codeNm_rec {h : Heap} {c : Addr} {q : Str} (e : (h.get? c).map codeNm = some (some q)) : h.CodeRec (.ref c) q := by
  obtain ⟨o, ho, e2⟩ := Option.map_eq_some_iff.mp e
  unfold codeNm at e2
  split at e2
  · rename_i vs hd
    split at e2
    · rename_i q' t hv
      cases e2
      exact ⟨c, o, vs, t, rfl, ho, hd, hv⟩
    · cases e2
  · cases e2
theorem kcodesOf {h : Heap} : ∀ {l : List (Addr × Str)}, (l.map fun p => (h.get? p.1).map codeNm) = (l.map fun p => some (some p.2)) → ∀ p ∈ l, h.CodeRec (.ref p.1) p.2 := by
  intro x_
  induction x_ with
  | nil =>
    intro _ p hp
    cases hp
  | cons q l ih =>
    intro e p hp
    simp only [List.map_cons, List.cons.injEq] at e
    rcases List.mem_cons.mp hp with rfl | hp
    · exact codeNm_rec e.1
    · exact ih e.2 p hp
theorem kAs_eq (P : Params) : kAs = (kFrag P).map (·.1) := by kernel_rfl
noncomputable def hook0 : Hook where
  α := List (Option Obj) × List (Option (Option Str))
  obs s := (kAs.map s.heap.get?, kCodes.map fun p => (s.heap.get? p.1).map codeNm)
  val w := ((kFrag w.params).map fun p => some p.2, kCodes.map fun p => some (some p.2))
  says w h := (kFrag w.params).In h ∧ ∀ p ∈ kCodes, h.CodeRec (.ref p.1) p.2
  of w s e := ⟨Frag.in_of (kAs_eq _) (congrArg Prod.fst e), kcodesOf (congrArg Prod.snd e)⟩
  keeps w h h' x k := ⟨x.1.keeps k, fun p hp => (x.2 p hp).keeps k⟩
noncomputable def pickAt {α : Type} (l : List α) (is : List Nat) : List α := is.filterMap fun i => l[i]?
noncomputable def view0 : Program := { pw0 with main := { pw0.main with body := pickAt pw0.main.body [1, 2, 3, 4, 6, 7, 8, 9, 10, 11, 12, 13, 14, 15, 16, 17, 18, 19, 20, 21, 22, 25, 26, 27, 28, 29, 30, 31, 32, 33, 34] } }
set_option maxRecDepth 100000 in
set_option maxHeartbeats 0 in
theorem head_left : LeftO pw0 view0 [Str.ofString "LinkFault", Str.ofString "assemble"] (fun s => xlAt view0 [] s && recOk (RowW.records PySem.Challenge.rw_no0159_01.row.toRowW) s) (Hook.obs hook0) (Hook.val hook0) 2766 := by
  intro w
  kernel_rfl
end Mine
namespace Mine
theorem hide {p : Prop} (h : ∀ b : Prop, (p → b) → b) : p := h p id
open PySem PySem.W PySem.Calls PyProof.Rows

noncomputable def hkey (w : World) : PyData → Int
  | .int i => hashInt i
  | .str x => hashStr w x
  | .tuple xs => reduceHash (Builtin.Tuple.tupleHashOf (xs.map fun x => match x with | .int i => hashInt i | _ => 0))
  | _ => 0

noncomputable def KeepBut (τ : Addr) (h h' : Heap) : Prop := ∀ b o, b ≠ τ → h.get? b = some o → h'.get? b = some o
noncomputable def KeepAll (h h' : Heap) : Prop := ∀ b o, h.get? b = some o → h'.get? b = some o
theorem KeepAll.refl (h : Heap) : KeepAll h h := fun _ _ e => e
theorem KeepAll.trans {a b c : Heap} (x : KeepAll a b) (y : KeepAll b c) : KeepAll a c := fun d o e => y d o (x d o e)
theorem KeepAll.but {a b : Heap} (x : KeepAll a b) (τ : Addr) : KeepBut τ a b := fun d o _ e => x d o e
theorem KeepBut.trans {τ : Addr} {a b c : Heap} (x : KeepBut τ a b) (y : KeepBut τ b c) : KeepBut τ a c := fun d o n e => y d o n (x d o n e)
theorem KeepBut.refl (τ : Addr) (h : Heap) : KeepBut τ h h := fun _ _ _ e => e
theorem KeepAll.push (h : Heap) (o : Obj) : KeepAll h (h.push o) := fun _ _ e => Heap.get?_push_of_some o e

noncomputable abbrev LObj (vs : Array Value) (n : Nat) : Obj := { cls := .type "list", dict := none, data := .seq vs n, slots := #[] }
noncomputable abbrev TObj (vs : Array Value) (n : Nat) : Obj := { cls := .type "tuple", dict := none, data := .seq vs n, slots := #[] }
noncomputable abbrev DObj (es : Array DictEntry) (n : Nat) : Obj := { cls := .type "dict", dict := none, data := .dict es n, slots := #[] }

mutual
inductive Rd (w : World) (h : Heap) (B : Addr → Prop) : Value → PyData → Prop
  | none : Rd w h B .none .none
  | bool (b) : Rd w h B (.bool b) (.bool b)
  | int (i t) : Rd w h B (.int i t) (.int i)
  | str (x t) : Rd w h B (.str x t) (.str x)
  | tuple {a vs n xs} : h.get? a = some (TObj vs n) → ¬ B a → RdAll w h B vs.toList xs → Rd w h B (.ref a) (.tuple xs)
  | list {a vs n xs} : h.get? a = some (LObj vs n) → ¬ B a → RdAll w h B vs.toList xs → Rd w h B (.ref a) (.list xs)
  | dict {a es n kvs} : h.get? a = some (DObj es n) → ¬ B a → a ≠ sysModules → (kvs.map (·.1)).Nodup → RdEnts w h B es.toList kvs → Rd w h B (.ref a) (.dict kvs)
inductive RdAll (w : World) (h : Heap) (B : Addr → Prop) : List Value → List PyData → Prop
  | nil : RdAll w h B [] []
  | cons {v vs d ds} : Rd w h B v d → RdAll w h B vs ds → RdAll w h B (v :: vs) (d :: ds)
inductive RdEnts (w : World) (h : Heap) (B : Addr → Prop) : List DictEntry → List (PyData × PyData) → Prop
  | nil : RdEnts w h B [] []
  | cons {hs k v es dk dv kvs} : hs = hkey w dk → Rd w h B k dk → Rd w h B v dv → RdEnts w h B es kvs → RdEnts w h B (⟨hs, k, v⟩ :: es) ((dk, dv) :: kvs)
end

section
variable {w : World} {h h' : Heap} {B B' : Addr → Prop}
theorem Rd.ind3 {P : Value → PyData → Prop} {P2 : List Value → List PyData → Prop} {P3 : List DictEntry → List (PyData × PyData) → Prop}
    (h1 : P .none .none) (h2 : ∀ b, P (.bool b) (.bool b)) (h3 : ∀ i t, P (.int i t) (.int i)) (h4 : ∀ x t, P (.str x t) (.str x))
    (h5 : ∀ {a vs n xs}, h.get? a = some (TObj vs n) → ¬ B a → P2 vs.toList xs → P (.ref a) (.tuple xs))
    (h6 : ∀ {a vs n xs}, h.get? a = some (LObj vs n) → ¬ B a → P2 vs.toList xs → P (.ref a) (.list xs))
    (h7 : ∀ {a es n kvs}, h.get? a = some (DObj es n) → ¬ B a → a ≠ sysModules → (kvs.map (·.1)).Nodup → P3 es.toList kvs → P (.ref a) (.dict kvs))
    (h8 : P2 [] []) (h9 : ∀ {v vs d ds}, P v d → P2 vs ds → P2 (v :: vs) (d :: ds))
    (h10 : P3 [] []) (h11 : ∀ {hs k v es dk dv kvs}, hs = hkey w dk → P k dk → P v dv → P3 es kvs → P3 (⟨hs, k, v⟩ :: es) ((dk, dv) :: kvs)) :
    (∀ {v d}, Rd w h B v d → P v d) ∧ (∀ {v d}, RdAll w h B v d → P2 v d) ∧ (∀ {v d}, RdEnts w h B v d → P3 v d) :=
  ⟨fun r => Rd.rec (motive_1 := fun v d _ => P v d) (motive_2 := fun v d _ => P2 v d) (motive_3 := fun v d _ => P3 v d) h1 h2 h3 h4 (fun e n _ => h5 e n) (fun e n _ => h6 e n) (fun e n s d _ => h7 e n s d) h8 (fun _ _ => h9) h10 (fun e _ _ _ => h11 e) r,
   fun r => RdAll.rec (motive_1 := fun v d _ => P v d) (motive_2 := fun v d _ => P2 v d) (motive_3 := fun v d _ => P3 v d) h1 h2 h3 h4 (fun e n _ => h5 e n) (fun e n _ => h6 e n) (fun e n s d _ => h7 e n s d) h8 (fun _ _ => h9) h10 (fun e _ _ _ => h11 e) r,
   fun r => RdEnts.rec (motive_1 := fun v d _ => P v d) (motive_2 := fun v d _ => P2 v d) (motive_3 := fun v d _ => P3 v d) h1 h2 h3 h4 (fun e n _ => h5 e n) (fun e n _ => h6 e n) (fun e n s d _ => h7 e n s d) h8 (fun _ _ => h9) h10 (fun e _ _ _ => h11 e) r⟩
theorem RdAll.ind {P : List Value → List PyData → Prop} (h8 : P [] []) (h9 : ∀ {v vs d ds}, Rd w h B v d → P vs ds → P (v :: vs) (d :: ds)) {vs xs} (r : RdAll w h B vs xs) : P vs xs :=
  RdAll.rec (motive_1 := fun _ _ _ => True) (motive_2 := fun v d _ => P v d) (motive_3 := fun _ _ _ => True) trivial (fun _ => trivial) (fun _ _ => trivial) (fun _ _ => trivial) (fun _ _ _ _ => trivial) (fun _ _ _ _ => trivial) (fun _ _ _ _ _ _ => trivial) h8 (fun r _ _ => h9 r) trivial (fun _ _ _ _ _ _ _ => trivial) r
theorem RdEnts.ind {P : List DictEntry → List (PyData × PyData) → Prop} (h10 : P [] []) (h11 : ∀ {hs k v es dk dv kvs}, hs = hkey w dk → Rd w h B k dk → Rd w h B v dv → P es kvs → P (⟨hs, k, v⟩ :: es) ((dk, dv) :: kvs)) {vs xs} (r : RdEnts w h B vs xs) : P vs xs :=
  RdEnts.rec (motive_1 := fun _ _ _ => True) (motive_2 := fun _ _ _ => True) (motive_3 := fun v d _ => P v d) trivial (fun _ => trivial) (fun _ _ => trivial) (fun _ _ => trivial) (fun _ _ _ _ => trivial) (fun _ _ _ _ => trivial) (fun _ _ _ _ _ _ => trivial) trivial (fun _ _ _ _ => trivial) h10 (fun e r1 r2 _ _ _ => h11 e r1 r2) r
theorem Rd.monoN3 (k : ∀ b o, h.get? b = some o → (∀ fs, o.data ≠ .fields fs) → ¬ B b → h'.get? b = some o ∧ ¬ B' b) : (∀ {v d}, Rd w h B v d → Rd w h' B' v d) ∧ (∀ {v d}, RdAll w h B v d → RdAll w h' B' v d) ∧ (∀ {v d}, RdEnts w h B v d → RdEnts w h' B' v d) :=
  have k2 : ∀ {b o}, h.get? b = some o → ¬ B b → (∀ fs, o.data ≠ .fields fs) → h'.get? b = some o ∧ ¬ B' b := fun e n f => k _ _ e f n
  Rd.ind3 .none .bool .int .str (fun e n r => have q := k2 e n nofun; .tuple q.1 q.2 r) (fun e n r => have q := k2 e n nofun; .list q.1 q.2 r) (fun e n s d r => have q := k2 e n nofun; .dict q.1 q.2 s d r) .nil .cons .nil .cons
theorem Rd.monoN (k : ∀ b o, h.get? b = some o → (∀ fs, o.data ≠ .fields fs) → ¬ B b → h'.get? b = some o ∧ ¬ B' b) {v d} (r : Rd w h B v d) : Rd w h' B' v d := (Rd.monoN3 k).1 r
theorem RdAll.monoN (k : ∀ b o, h.get? b = some o → (∀ fs, o.data ≠ .fields fs) → ¬ B b → h'.get? b = some o ∧ ¬ B' b) {v d} (r : RdAll w h B v d) : RdAll w h' B' v d := (Rd.monoN3 k).2.1 r
theorem RdEnts.monoN (k : ∀ b o, h.get? b = some o → (∀ fs, o.data ≠ .fields fs) → ¬ B b → h'.get? b = some o ∧ ¬ B' b) {v d} (r : RdEnts w h B v d) : RdEnts w h' B' v d := (Rd.monoN3 k).2.2 r
theorem Rd.mono (k : ∀ b o, h.get? b = some o → ¬ B b → h'.get? b = some o ∧ ¬ B' b) {v d} (r : Rd w h B v d) : Rd w h' B' v d := r.monoN fun b o e _ => k b o e
theorem RdAll.mono (k : ∀ b o, h.get? b = some o → ¬ B b → h'.get? b = some o ∧ ¬ B' b) {v d} (r : RdAll w h B v d) : RdAll w h' B' v d := r.monoN fun b o e _ => k b o e
theorem RdEnts.mono (k : ∀ b o, h.get? b = some o → ¬ B b → h'.get? b = some o ∧ ¬ B' b) {v d} (r : RdEnts w h B v d) : RdEnts w h' B' v d := r.monoN fun b o e _ => k b o e
theorem Rd.keep (k : KeepAll h h') {v d} (r : Rd w h B v d) : Rd w h' B v d := r.mono fun b o e n => ⟨k b o e, n⟩
theorem RdAll.keep (k : KeepAll h h') {v d} (r : RdAll w h B v d) : RdAll w h' B v d := r.mono fun b o e n => ⟨k b o e, n⟩
theorem RdAll.length {vs : List Value} {xs : List PyData} : RdAll w h B vs xs → vs.length = xs.length :=
  RdAll.ind (P := fun vs xs => vs.length = xs.length) rfl fun _ e => congrArg (· + 1) e
theorem RdAll.get {vs : List Value} {xs : List PyData} {i : Nat} {x : PyData} (r : RdAll w h B vs xs) (e : xs[i]? = some x) : ∃ v, vs[i]? = some v ∧ Rd w h B v x :=
  RdAll.ind (P := fun vs xs => ∀ i x, xs[i]? = some x → ∃ v, vs[i]? = some v ∧ Rd w h B v x) (fun _ _ e => by cases e) (fun r q i x e => by
    cases i with
    | zero => cases e; exact ⟨_, rfl, r⟩
    | succ i => exact q i x e) r i x e
theorem RdAll.append {vs ws : List Value} {xs ys : List PyData} (r : RdAll w h B vs xs) (q : RdAll w h B ws ys) : RdAll w h B (vs ++ ws) (xs ++ ys) :=
  RdAll.ind (P := fun vs xs => RdAll w h B (vs ++ ws) (xs ++ ys)) q .cons r
theorem RdAll.take (n : Nat) {vs : List Value} {xs : List PyData} (r : RdAll w h B vs xs) : RdAll w h B (vs.take n) (xs.take n) :=
  RdAll.ind (P := fun vs xs => ∀ n, RdAll w h B (vs.take n) (xs.take n)) (fun n => by cases n <;> exact .nil) (fun a b n => by cases n with | zero => exact .nil | succ n => exact .cons a (b n)) r n
theorem RdAll.drop : ∀ (n : Nat) {vs : List Value} {xs : List PyData}, RdAll w h B vs xs → RdAll w h B (vs.drop n) (xs.drop n)
  | 0, _, _, r => r
  | n + 1, _, _, .nil => .nil
  | n + 1, _, _, .cons a b => b.drop n
theorem RdAll.reverse {vs : List Value} {xs : List PyData} : RdAll w h B vs xs → RdAll w h B vs.reverse xs.reverse :=
  RdAll.ind (P := fun vs xs => RdAll w h B vs.reverse xs.reverse) .nil fun a b => by
    rw [List.reverse_cons, List.reverse_cons]
    exact b.append (.cons a .nil)

inductive RdTop (w : World) (h : Heap) (B : Addr → Prop) (a : Addr) : PyData → Prop
  | list {vs n xs} : h.get? a = some (LObj vs n) → RdAll w h B vs.toList xs → RdTop w h B a (.list xs)
  | dict {es n kvs} : h.get? a = some (DObj es n) → a ≠ sysModules → (kvs.map (·.1)).Nodup → RdEnts w h B es.toList kvs → RdTop w h B a (.dict kvs)
theorem RdTop.mono (k : ∀ b o, h.get? b = some o → ¬ B b → h'.get? b = some o ∧ ¬ B' b) {a d} (ka : ∀ o, h.get? a = some o → h'.get? a = some o) : RdTop w h B a d → RdTop w h' B' a d
  | .list e r => .list (ka _ e) (r.mono k)
  | .dict e s nd r => .dict (ka _ e) s nd (r.mono k)
theorem RdTop.rd {a d} (r : RdTop w h B a d) (n : ¬ B a) : Rd w h B (.ref a) d := by
  cases r with
  | list e r => exact .list e n r
  | dict e s nd r => exact .dict e n s nd r

inductive RdV (w : World) (h : Heap) (B : Addr → Prop) : Value → PyData → Prop
  | rd {v x} : Rd w h B v x → RdV w h B v x
  | top {a x} : RdTop w h B a x → RdV w h B (.ref a) x
theorem RdV.int_inv {v i} (r : RdV w h B v (.int i)) : ∃ t, v = .int i t := by
  cases r with
  | rd r => cases r; exact ⟨_, rfl⟩
  | top r => cases r
theorem RdV.str_inv {v x} (r : RdV w h B v (.str x)) : ∃ t, v = .str x t := by
  cases r with
  | rd r => cases r; exact ⟨_, rfl⟩
  | top r => cases r
theorem RdV.bool_inv {v x} (r : RdV w h B v (.bool x)) : v = .bool x := by
  cases r with
  | rd r => cases r; rfl
  | top r => cases r
theorem RdV.none_inv {v} (r : RdV w h B v .none) : v = .none := by
  cases r with
  | rd r => cases r; rfl
  | top r => cases r
theorem RdV.list_inv {v xs} (r : RdV w h B v (.list xs)) : ∃ a vs n, v = .ref a ∧ h.get? a = some (LObj vs n) ∧ RdAll w h B vs.toList xs := by
  cases r with
  | rd r => cases r with | list e n r => exact ⟨_, _, _, rfl, e, r⟩
  | top r => cases r with | list e r => exact ⟨_, _, _, rfl, e, r⟩
theorem RdV.tuple_inv {v xs} (r : RdV w h B v (.tuple xs)) : ∃ a vs n, v = .ref a ∧ h.get? a = some (TObj vs n) ∧ RdAll w h B vs.toList xs := by
  cases r with
  | rd r => cases r with | tuple e n r => exact ⟨_, _, _, rfl, e, r⟩
  | top r => cases r
theorem RdV.dict_inv {v kvs} (r : RdV w h B v (.dict kvs)) : ∃ a es n, v = .ref a ∧ h.get? a = some (DObj es n) ∧ a ≠ sysModules ∧ (kvs.map (·.1)).Nodup ∧ RdEnts w h B es.toList kvs := by
  cases r with
  | rd r => cases r with | dict e n s nd r => exact ⟨_, _, _, rfl, e, s, nd, r⟩
  | top r => cases r with | dict e s nd r => exact ⟨_, _, _, rfl, e, s, nd, r⟩
end

inductive Slot where
  | unset
  | own (x : PyData)
  | lent (x : PyData)
  | sh (x : PyData)
  | tape

structure St where
  ρ : List Slot
  ts : List Int

inductive AV where
  | dat (x : PyData) (fresh : Bool)
  | var (i : Nat)
  | tape

inductive Out (α : Type) where
  | ok (a : α) (st : St)
  | raise
  | stuck

noncomputable def Out.bind {α β : Type} (o : Out α) (f : α → St → Out β) : Out β := match o with
  | .ok a st => f a st
  | .raise => .raise
  | .stuck => .stuck

inductive SRes where
  | next
  | ret (x : PyData) (fresh : Bool)

inductive Arg where
  | sh (x : PyData)
  | tape
inductive Ret where
  | ok (x : PyData) (fresh : Bool) (ts : List Int)
  | raise
  | stuck
noncomputable abbrev Fn := List Arg → List Int → Ret

noncomputable def Slot.owned : Slot → Option PyData
  | .own x => some x
  | .lent x => some x
  | _ => none

structure GC where
  prog : Program
  w : World
  H : Heap
  mg : Str → Option Value
  mb : Str → Option Value
  C : Addr
  /-- what is known of the tape's own list -/
  I : Array Value → Nat → Prop

structure GC.Ok (G : GC) : Prop where
  g : G.H.Ns mainGlobals G.mg
  b : G.H.Ns builtinsNs G.mb
  nolimit : G.H.NoLimit
  builtins : ∀ x : Str, x ≠ "__name__" → G.mb x = bootBuiltins x
  sys : ∃ o, G.H.get? sysModules = some o
  popI : ∀ (vs : Array Value) (n n' : Nat), G.I vs n → vs ≠ #[] → G.I (vs.eraseIdxIfInBounds (vs.size - 1)) n'

noncomputable abbrev GC.M (G : GC) : Model := model G.prog G.w

structure FC where
  env : Env
  fenv : Env
  outer : List Env
  L : Addr
  τ : Addr
  B : Addr → Prop
  W : Addr → Prop
  hin : Heap
  vars : List Str
  ownc : Bool
  g : Array GenState
  d : Drawn
  o : OsState

noncomputable def FC.Ban (c : FC) (ρ : List Slot) (vs : Nat → Value) (b : Addr) : Prop :=
  c.B b ∨ c.W b ∨ b = c.τ ∨ ∃ i sl x, ρ[i]? = some sl ∧ sl.owned = some x ∧ vs i = .ref b

noncomputable def FC.BanM (c : FC) (ρ : List Slot) (vs : Nat → Value) (b : Addr) : Prop :=
  c.B b ∨ c.W b ∨ b = c.τ ∨ ∃ i x, ρ[i]? = some (.own x) ∧ vs i = .ref b

noncomputable def TapeAt (I : Array Value → Nat → Prop) (h : Heap) (τ : Addr) (ts : List Int) : Prop := ∃ vs n, h.get? τ = some (LObj vs n) ∧ IntsAre vs.toList ts ∧ I vs n

structure FC.Ok (G : GC) (c : FC) : Prop where
  kind : c.env.scope.kind = .function
  globals : c.env.globals = mainGlobals
  builtins : c.env.builtins = builtinsNs
  locals : c.env.locals = c.L
  frame : c.env.frame = c.fenv.frame
  base : KeepAll G.H c.hin
  τH : G.H.get? c.τ = none
  τin : ∃ o, c.hin.get? c.τ = some o
  Bin : ∀ b, c.B b → ∃ o, c.hin.get? b = some o
  Wnew : ∀ b, c.W b → c.hin.get? b = none
  WL : c.W c.L
  fr : ∃ Lf, c.fenv.frame = some Lf
  nodup : c.vars.Nodup
  cinj : ∀ n n' ca, c.env.cells.lookup n = some ca → c.env.cells.lookup n' = some ca → n = n'
  Wcell : c.ownc = true → ∀ n ca, c.env.cells.lookup n = some ca → c.W ca

noncomputable def VarAt (h : Heap) (env : Env) (n : Str) (ov : Option Value) : Prop := match env.kindOf n with
  | some .local => ∃ m, h.Ns env.locals m ∧ m n = ov
  | some .cell => ∃ ca, env.cells.lookup n = some ca ∧ h.IsCell ca ov
  | _ => False

noncomputable def SlotR (w : World) (h : Heap) (B : Addr → Prop) (c : FC) (sl : Slot) (v : Value) : Prop := match sl with
  | .unset => True
  | .sh x => Rd w h B v x
  | .own x => ∃ a, v = .ref a ∧ RdTop w h B a x ∧ c.hin.get? a = none ∧ ¬ c.W a
  | .lent x => ∃ a, v = .ref a ∧ RdTop w h B a x ∧ c.hin.get? a = none ∧ ¬ c.W a
  | .tape => v = .ref c.τ

noncomputable def Slot.ov (sl : Slot) (v : Value) : Option Value := match sl with
  | .unset => none
  | _ => some v

structure SR (G : GC) (c : FC) (st : St) (vs : Nat → Value) (s : Shared) : Prop where
  len : st.ρ.length = c.vars.length
  var : ∀ (i : Nat) (n : Str) (sl : Slot), c.vars[i]? = some n → st.ρ[i]? = some sl → VarAt s.heap c.env n (sl.ov (vs i))
  slot : ∀ (i : Nat) (sl : Slot), st.ρ[i]? = some sl → SlotR G.w s.heap (c.Ban st.ρ vs) c sl (vs i)
  uniq : ∀ (i j : Nat) (si sj : Slot) (x y : PyData), i ≠ j → st.ρ[i]? = some si → st.ρ[j]? = some sj → si.owned = some x → sj.owned = some y → vs i ≠ vs j
  tape : TapeAt G.I s.heap c.τ st.ts
  keep : KeepBut c.τ c.hin s.heap
  frames : s.heap.FunFrames G.H (c.fenv :: c.outer)
  rest : s.gens = c.g ∧ s.drawn = c.d ∧ s.os = c.o
  wIn : ∀ b, c.W b → ∃ o, s.heap.get? b = some o
  nsL : ∃ m, s.heap.Ns c.L m

noncomputable def Shares (ρ' ρ : List Slot) : Prop := ρ'.length = ρ.length ∧ ∀ (i : Nat) (sl : Slot), ρ[i]? = some sl → ∃ sl' : Slot, ρ'[i]? = some sl' ∧ (sl' = sl ∨ ∃ x, sl = Slot.own x ∧ sl' = Slot.sh x)
theorem Shares.refl (ρ : List Slot) : Shares ρ ρ := ⟨rfl, fun _ sl e => ⟨sl, e, .inl rfl⟩⟩
theorem Shares.trans {a b d : List Slot} (x : Shares a b) (y : Shares b d) : Shares a d := by
  refine ⟨x.1.trans y.1, fun i sl e => ?_⟩
  obtain ⟨s1, e1, h1⟩ := y.2 i sl e
  obtain ⟨s2, e2, h2⟩ := x.2 i s1 e1
  refine ⟨s2, e2, ?_⟩
  rcases h1 with rfl | ⟨z, rfl, rfl⟩
  · exact h2
  · rcases h2 with rfl | ⟨y, h, _⟩
    · exact .inr ⟨z, rfl, rfl⟩
    · cases h
noncomputable def BanLe (c : FC) (ρ' ρ : List Slot) (vs : Nat → Value) : Prop := ∀ b, c.Ban ρ' vs b → c.Ban ρ vs b
theorem Shares.ban {c : FC} {ρ' ρ : List Slot} {vs : Nat → Value} (x : Shares ρ' ρ) : BanLe c ρ' ρ vs := by
  intro b hb
  rcases hb with h | h | h | ⟨i, sl, y, h1, h2, h3⟩
  · exact .inl h
  · exact .inr (.inl h)
  · exact .inr (.inr (.inl h))
  · have hi : i < ρ.length := by rw [← x.1]; exact (List.getElem?_eq_some_iff.mp h1).1
    obtain ⟨s1, e1, h4⟩ := x.2 i ρ[i] (List.getElem?_eq_getElem hi)
    rw [h1] at e1
    cases e1
    rcases h4 with h4 | ⟨z, _, h5⟩
    · exact .inr (.inr (.inr ⟨i, sl, y, by rw [List.getElem?_eq_getElem hi, h4], h2, h3⟩))
    · subst h5; simp [Slot.owned] at h2

noncomputable def VR (w : World) (c : FC) (ρ : List Slot) (vs : Nat → Value) (h : Heap) (v : Value) : AV → Prop
  | .dat x _ => Rd w h (c.Ban ρ vs) v x
  | .var i => v = vs i ∧ ∃ sl x, ρ[i]? = some sl ∧ (sl = .own x ∨ sl = .sh x)
  | .tape => v = .ref c.τ

noncomputable def Fresh (h : Heap) (v : Value) : AV → Prop
  | .dat _ true => ∃ a, v = .ref a ∧ h.get? a = none
  | _ => True

noncomputable def ExcIn (G : GC) (c : FC) (h : Heap) (ea : Addr) : Prop :=
  G.H.StaysIn h ∧ G.H.get? ea = none ∧ h.FunFrames G.H (c.fenv :: c.outer) ∧ ∃ a0 Lf, c.fenv.frame = some Lf ∧
    ((∃ oe vs, h.get? ea = some oe ∧ oe.cls = .ref G.C ∧ oe.data = .fields vs ∧ vs[1]? = some .none ∧ vs[0]? = some a0) ∨
      h.TracedW G.H ea (.ref G.C) a0 ∨ h.TracedAtW G.H ea (.ref G.C) a0 (rawInt Lf))

noncomputable def UpTo (τ : Addr) (h h' : Heap) : Prop := ∀ b o, h.get? b = some o → b ≠ τ → (∀ vs, o.data ≠ .fields vs) → ∃ sl, h'.get? b = some { o with slots := sl }

noncomputable def EP (G : GC) (c : FC) (e : Value) (s' : Shared) : Prop :=
  ∃ ea, e = .ref ea ∧ ExcIn G c s'.heap ea ∧ UpTo c.τ c.hin s'.heap ∧ (s'.gens = c.g ∧ s'.drawn = c.d ∧ s'.os = c.o) ∧ ∃ m, s'.heap.Ns c.L m

noncomputable def QE (G : GC) (c : FC) (st : St) (vs : Nat → Value) (s : Shared) (o : Out AV) (v : Value) (s' : Shared) : Prop := match o with
  | .ok av st' => SR G c st' vs s' ∧ KeepBut c.τ s.heap s'.heap ∧ Shares st'.ρ st.ρ ∧ VR G.w c st'.ρ vs s'.heap v av ∧ Fresh s.heap v av
  | _ => False
noncomputable def QB (G : GC) (c : FC) (st : St) (vs : Nat → Value) (s : Shared) (o : Out Bool) (v : Bool) (s' : Shared) : Prop := match o with
  | .ok av st' => SR G c st' vs s' ∧ KeepBut c.τ s.heap s'.heap ∧ Shares st'.ρ st.ρ ∧ v = av
  | _ => False

noncomputable def Room (n : Nat) (A : Around) : Prop := A.depth + n < recursionLimit ∧ A.units + 20 * n < cLine

structure Surr (G : GC) (c : FC) (n : Nat) (A : Around) : Prop where
  ok : c.Ok G
  gok : G.Ok
  room : Room n A
  hh : A.handled = none
  fr : A.frames = some (c.fenv :: c.outer)

noncomputable abbrev EF := St → Out AV
noncomputable abbrev BF := St → Out Bool
noncomputable abbrev SF := St → Out SRes

noncomputable def SE (G : GC) (sc : Scope) (vars : List Str) (n : Nat) (e : Expr) (F : EF) : Prop :=
  ∀ (c : FC) (A : Around) (st : St) (vs : Nat → Value) (s : Shared), c.env.scope = sc → c.vars = vars → Surr G c n A → SR G c st vs s → F st ≠ .stuck →
    wpAny G.M A (eval e c.env) (QE G c st vs s (F st)) (fun e s' => F st = .raise ∧ EP G c e s') s
noncomputable def SB (G : GC) (sc : Scope) (vars : List Str) (n : Nat) (e : Expr) (F : BF) : Prop :=
  ∀ (c : FC) (A : Around) (st : St) (vs : Nat → Value) (s : Shared), c.env.scope = sc → c.vars = vars → Surr G c n A → SR G c st vs s → F st ≠ .stuck →
    wpAny G.M A (isTrue e c.env (eval e c.env)) (QB G c st vs s (F st)) (fun e s' => F st = .raise ∧ EP G c e s') s

structure Kp (c : FC) (st : St) (vs : Nat → Value) (s : Shared) (st' : St) (vs' : Nat → Value) (s' : Shared) : Prop where
  keep : ∀ b o, s.heap.get? b = some o → ¬ c.BanM st.ρ vs b → s'.heap.get? b = some o
  mM : ∀ b o, s.heap.get? b = some o → c.BanM st'.ρ vs' b → c.BanM st.ρ vs b
  mB : ∀ b o, s.heap.get? b = some o → c.Ban st'.ρ vs' b → c.Ban st.ρ vs b
  live : ∀ b o, s.heap.get? b = some o → ∃ o', s'.heap.get? b = some o'

noncomputable def QS (G : GC) (c : FC) (st : St) (vs : Nat → Value) (s : Shared) (o : Out SRes) (f : Flow) (s' : Shared) : Prop := match o with
  | .ok .next st' => f = .next ∧ ∃ vs', SR G c st' vs' s' ∧ Kp c st vs s st' vs' s'
  | .ok (.ret x fr) st' => ∃ v, f = .ret v ∧ TapeAt G.I s'.heap c.τ st'.ts ∧ Rd G.w s'.heap c.B v x ∧ (fr = true → ∃ a, v = .ref a ∧ c.hin.get? a = none) ∧ KeepBut c.τ c.hin s'.heap ∧
      s'.heap.FunFrames G.H (c.fenv :: c.outer) ∧ (s'.gens = c.g ∧ s'.drawn = c.d ∧ s'.os = c.o)
  | _ => False
noncomputable def SS (G : GC) (sc : Scope) (vars : List Str) (n : Nat) (e : Stmt) (F : SF) : Prop :=
  ∀ (c : FC) (A : Around) (st : St) (vs : Nat → Value) (s : Shared), c.env.scope = sc → c.vars = vars → c.ownc = true → Surr G c n A → SR G c st vs s → F st ≠ .stuck →
    wpAny G.M A (exec e c.env) (QS G c st vs s (F st)) (fun e s' => F st = .raise ∧ EP G c e s') s
noncomputable def SSs (G : GC) (sc : Scope) (vars : List Str) (n : Nat) (e : List Stmt) (F : SF) : Prop :=
  ∀ (c : FC) (A : Around) (st : St) (vs : Nat → Value) (s : Shared), c.env.scope = sc → c.vars = vars → c.ownc = true → Surr G c n A → SR G c st vs s → F st ≠ .stuck →
    wpAny G.M A (execs e c.env) (QS G c st vs s (F st)) (fun e s' => F st = .raise ∧ EP G c e s') s

inductive ArgR (w : World) (h : Heap) (B : Addr → Prop) (τ : Addr) : Value → Arg → Prop
  | sh {v x} : Rd w h B v x → ArgR w h B τ v (.sh x)
  | tape : ArgR w h B τ (.ref τ) .tape
inductive ArgsR (w : World) (h : Heap) (B : Addr → Prop) (τ : Addr) : List Value → List Arg → Prop
  | nil : ArgsR w h B τ [] []
  | cons {v a vs as} : ArgR w h B τ v a → ArgsR w h B τ vs as → ArgsR w h B τ (v :: vs) (a :: as)

structure CallPre (G : GC) (n : Nat) (A : Around) (outer : List Env) (τ : Addr) (B : Addr → Prop) (ts : List Int) (s : Shared) : Prop where
  gok : G.Ok
  room : Room n A
  hh : A.handled = none
  fr : A.frames = some outer
  base : KeepAll G.H s.heap
  τH : G.H.get? τ = none
  tape : TapeAt G.I s.heap τ ts
  Bτ : B τ
  Bin : ∀ b, B b → ∃ o, s.heap.get? b = some o
  frames : s.heap.FunFrames G.H outer

noncomputable def QR (G : GC) (τ : Addr) (B : Addr → Prop) (s : Shared) (r : Ret) (v : Value) (s' : Shared) : Prop := match r with
  | .ok x fr ts => TapeAt G.I s'.heap τ ts ∧ Rd G.w s'.heap B v x ∧ (fr = true → ∃ a, v = .ref a ∧ s.heap.get? a = none) ∧ KeepBut τ s.heap s'.heap ∧ (s'.gens = s.gens ∧ s'.drawn = s.drawn ∧ s'.os = s.os)
  | _ => False
noncomputable def ER (G : GC) (τ : Addr) (outer : List Env) (s : Shared) (r : Ret) (e : Value) (s' : Shared) : Prop :=
  r = .raise ∧ ∃ ea a0, e = .ref ea ∧ Heap.FlyingW G.H outer ea (.ref G.C) a0 s'.heap ∧ UpTo τ s.heap s'.heap ∧ (s'.gens = s.gens ∧ s'.drawn = s.drawn ∧ s'.os = s.os)

noncomputable def FnSpec (G : GC) (n : Nat) (fa : Addr) (F : Fn) : Prop :=
  ∀ (A : Around) (outer : List Env) (τ : Addr) (B : Addr → Prop) (args : List Arg) (vals : List Value) (ts : List Int) (s : Shared),
    CallPre G n A outer τ B ts s → ArgsR G.w s.heap B τ vals args → F args ts ≠ .stuck →
    wpAny G.M A (call (.ref fa) vals) (QR G τ B s (F args ts)) (ER G τ outer s (F args ts)) s

end Mine
namespace Mine
open PySem PySem.W PySem.Calls PyProof.Rows

theorem get_ne {h : Heap} {a b : Addr} {o o' : Obj} (e : h.get? a = some o) (e' : h.get? b = some o') (n : o.data ≠ o'.data) : a ≠ b := by
  rintro rfl
  rw [e] at e'
  cases e'
  exact n rfl

theorem funFrames_but {h h' base : Heap} {τ : Addr} {vs : Array Value} {n : Nat} (k : KeepBut τ h h') (t : h'.get? τ = some (LObj vs n)) : ∀ {l : List Env}, h.FunFrames base l → h'.FunFrames base l := by
  intro x_
  induction x_ with
  | nil =>
    intro _
    exact trivial
  | cons env rest ih =>
    rintro ⟨hk, ⟨L, o, hf, hn, ho, hd⟩, hr⟩
    refine ⟨hk, ?_, ih hr⟩
    by_cases q : L = τ
    · subst q
      exact ⟨L, _, hf, hn, t, fun vs e => by cases e⟩
    · exact ⟨L, o, hf, hn, k _ _ q ho, hd⟩
theorem funFrames_all {h h' base : Heap} (k : KeepAll h h') {l : List Env} (f : h.FunFrames base l) : h'.FunFrames base l :=
  f.of_keeps fun b o e _ => ⟨o, k b o e, rfl⟩

theorem TapeAt.keep {I : Array Value → Nat → Prop} {h h' : Heap} {τ : Addr} {ts : List Int} (t : TapeAt I h τ ts) (k : KeepAll h h') : TapeAt I h' τ ts :=
  let ⟨vs, n, e, r⟩ := t; ⟨vs, n, k _ _ e, r⟩

theorem VarAt.but {h h' : Heap} {env : Env} {n : Str} {ov : Option Value} {τ : Addr} {vs : Array Value} {k0 : Nat} (x : VarAt h env n ov) (k : KeepBut τ h h') (t : h.get? τ = some (LObj vs k0)) : VarAt h' env n ov := by
  unfold VarAt at x ⊢
  split at x
  · refine hide fun b_ hb_ => ?_
    obtain ⟨m, ⟨o, es, ep, ho, hd, r⟩, e⟩ := x
    refine hb_ ?_
    have q : env.locals ≠ τ := get_ne ho t (by rw [hd]; intro z; cases z)
    exact ⟨m, ⟨o, es, ep, k _ _ q ho, hd, r⟩, e⟩
  · refine hide fun b_ hb_ => ?_
    obtain ⟨ca, e, o, ho, hd⟩ := x
    refine hb_ ?_
    have q : ca ≠ τ := get_ne ho t (by rw [hd]; intro z; cases z)
    exact ⟨ca, e, o, k _ _ q ho, hd⟩
  · exact x

theorem FC.Ban.tau {c : FC} {ρ : List Slot} {vs : Nat → Value} : c.Ban ρ vs c.τ := .inr (.inr (.inl rfl))
theorem ban_ne {c : FC} {ρ : List Slot} {vs : Nat → Value} {b : Addr} (n : ¬ c.Ban ρ vs b) : b ≠ c.τ := fun e => n (e ▸ FC.Ban.tau)

section
variable {G : GC} {c : FC} {st : St} {vs : Nat → Value} {s s' : Shared}

theorem SR.tauAt (x : SR G c st vs s) : ∃ v n, s.heap.get? c.τ = some (LObj v n) := let ⟨v, n, e, _⟩ := x.tape; ⟨v, n, e⟩
theorem SR.own_ne {a : Addr} (ok : c.Ok G) (h : c.hin.get? a = none) : a ≠ c.τ := by
  rintro rfl
  obtain ⟨o, e⟩ := ok.τin
  rw [h] at e
  cases e

theorem SR.step (ok : c.Ok G) (x : SR G c st vs s) (k : KeepBut c.τ s.heap s'.heap) {ts' : List Int} (t : TapeAt G.I s'.heap c.τ ts') (r : s'.gens = s.gens ∧ s'.drawn = s.drawn ∧ s'.os = s.os) :
    SR G c ⟨st.ρ, ts'⟩ vs s' := by
  refine hide fun b_ hb_ => ?_
  obtain ⟨tv, tn, te, _⟩ := x.tape
  obtain ⟨tv', tn', te', _⟩ := id t
  refine hb_ ?_
  refine ⟨x.len, fun i n sl h1 h2 => (x.var i n sl h1 h2).but k te, fun i sl h => ?_, x.uniq, t, x.keep.trans k, funFrames_but k te' x.frames, ⟨r.1.trans x.rest.1, r.2.1.trans x.rest.2.1, r.2.2.trans x.rest.2.2⟩, fun b hb => ?_, ?_⟩
  case refine_3 =>
    refine hide fun b_ hb_ => ?_
    obtain ⟨m, o, es, ep, ho, hr⟩ := x.nsL
    refine hb_ ?_
    exact ⟨m, o, es, ep, k _ _ (SR.own_ne ok (ok.Wnew _ ok.WL)) ho, hr⟩
  case refine_2 =>
    obtain ⟨o, e⟩ := x.wIn b hb
    exact ⟨o, k b o (SR.own_ne ok (ok.Wnew b hb)) e⟩
  have z := x.slot i sl h
  have km : ∀ b o, s.heap.get? b = some o → ¬ c.Ban st.ρ vs b → s'.heap.get? b = some o ∧ ¬ c.Ban st.ρ vs b := fun b o e n => ⟨k b o (ban_ne n) e, n⟩
  unfold SlotR at z ⊢
  cases sl with
  | unset => trivial
  | sh y => exact z.mono km
  | own y => obtain ⟨a, e, r, f1, f2⟩ := z; exact ⟨a, e, r.mono km fun o q => k _ _ (SR.own_ne ok f1) q, f1, f2⟩
  | lent y => obtain ⟨a, e, r, f1, f2⟩ := z; exact ⟨a, e, r.mono km fun o q => k _ _ (SR.own_ne ok f1) q, f1, f2⟩
  | tape => exact z
theorem SR.keepAll (ok : c.Ok G) (x : SR G c st vs s) (k : KeepAll s.heap s'.heap) (r : s'.gens = s.gens ∧ s'.drawn = s.drawn ∧ s'.os = s.os) : SR G c st vs s' :=
  x.step ok (k.but _) (x.tape.keep k) r


theorem base_stays (ok : c.Ok G) (x : SR G c st vs s) : KeepAll G.H s.heap := fun b o e => x.keep b o (fun q => by rw [q, ok.τH] at e; cases e) (ok.base b o e)

end
end Mine

namespace Mine
open PySem PySem.W PySem.Calls PyProof.Rows

noncomputable def AV.share (av : AV) (st : St) : Option (PyData × St) := match av with
  | .dat x _ => some (x, st)
  | .var i => match st.ρ[i]? with
    | some (.own x) => some (x, ⟨st.ρ.set i (.sh x), st.ts⟩)
    | some (.sh x) => some (x, st)
    | _ => none
  | .tape => none
noncomputable def AV.data (av : AV) (st : St) : Option PyData := match av with
  | .dat x _ => some x
  | .var i => match st.ρ[i]? with
    | some (.own x) => some x
    | some (.sh x) => some x
    | _ => none
  | .tape => some (.list (st.ts.map .int))

section
variable {G : GC} {c : FC} {st st' : St} {vs : Nat → Value} {s s' : Shared} {v : Value} {av : AV} {x : PyData} {ρ ρ' : List Slot} {h h' : Heap}

theorem VR.move (y : VR G.w c ρ vs h v av) (k : KeepBut c.τ h h') (z : Shares ρ' ρ) : VR G.w c ρ' vs h' v av := by
  cases av with
  | dat y' f => exact Rd.mono (fun b o e n => ⟨k b o (ban_ne n) e, fun q => n (z.ban b q)⟩) y
  | var i =>
    refine hide fun b_ hb_ => ?_
    obtain ⟨e, sl, d, hs, hd⟩ := y
    refine hb_ ?_
    refine ⟨e, ?_⟩
    obtain ⟨s2, e2, h2⟩ := z.2 i sl hs
    rcases h2 with rfl | ⟨d', _, rfl⟩
    · exact ⟨_, d, e2, hd⟩
    · exact ⟨_, d', e2, .inr rfl⟩
  | tape => exact y

theorem rdAll_ints {w : World} {h : Heap} {B : Addr → Prop} : ∀ {vs : List Value} {ts : List Int}, IntsAre vs ts → RdAll w h B vs (ts.map .int) := by
  intro x_
  induction x_ with
  | nil =>
    intro ts q
    have := q.length
    cases ts with
    | nil => exact .nil
    | cons _ _ => simp at this
  | cons v vs ih =>
    intro ts q
    have hl := q.length
    cases ts with
    | nil => simp at hl
    | cons t ts =>
      cases q with
      | cons r => exact .cons (.int _ _) (ih (by assumption))

theorem VR.readV (y : VR G.w c st.ρ vs s.heap v av) (r : SR G c st vs s) (e : av.data st = some x) : RdV G.w s.heap (c.Ban st.ρ vs) v x := by
  cases av with
  | dat y' f => simp only [AV.data, Option.some.injEq] at e; subst e; exact .rd y
  | var i =>
    obtain ⟨e1, sl, d, hs, hd⟩ := y
    have z := r.slot i sl hs
    subst e1
    simp only [AV.data, hs] at e
    rcases hd with rfl | rfl
    · simp only [Option.some.injEq] at e
      subst e
      obtain ⟨a, ha, ht, _⟩ := z
      rw [ha]
      exact .top ht
    · simp only [Option.some.injEq] at e
      subst e
      exact .rd z
  | tape =>
    simp only [AV.data, Option.some.injEq] at e
    subst e
    obtain ⟨tv, n, te, ti⟩ := r.tape
    have : v = .ref c.τ := y
    rw [this]
    exact .top (.list te (rdAll_ints ti.1))

theorem share_sound (ok : c.Ok G) (r : SR G c st vs s) (y : VR G.w c st.ρ vs s.heap v av) (e : av.share st = some (x, st')) :
    SR G c st' vs s ∧ Shares st'.ρ st.ρ ∧ Rd G.w s.heap (c.Ban st'.ρ vs) v x ∧ st'.ts = st.ts := by
  cases av with
  | tape => cases e
  | dat y' f =>
    simp only [AV.share, Option.some.injEq, Prod.mk.injEq] at e
    obtain ⟨rfl, rfl⟩ := e
    exact ⟨r, .refl _, y, rfl⟩
  | var i =>
    obtain ⟨e1, sl, d, hs, hd⟩ := y
    subst e1
    simp only [AV.share, hs] at e
    have z := r.slot i sl hs
    rcases hd with rfl | rfl
    · simp only [Option.some.injEq, Prod.mk.injEq] at e
      obtain ⟨rfl, rfl⟩ := e
      obtain ⟨a, ha, ht, hn, hw⟩ := z
      have hi : i < st.ρ.length := (List.getElem?_eq_some_iff.mp hs).1
      have shr : Shares (st.ρ.set i (.sh d)) st.ρ := by
        refine ⟨by simp, fun j sl e => ?_⟩
        by_cases q : i = j
        · subst q
          rw [hs] at e
          cases e
          exact ⟨.sh d, by simp [hi], .inr ⟨d, rfl, rfl⟩⟩
        · exact ⟨sl, by rw [List.getElem?_set_ne q]; exact e, .inl rfl⟩
      have nb : ¬ c.Ban (st.ρ.set i (.sh d)) vs a := by
        rintro (h | h | h | ⟨j, sl, w, h1, h2, h3⟩)
        · obtain ⟨o, ho⟩ := ok.Bin a h
          rw [hn] at ho; cases ho
        · exact hw h
        · exact SR.own_ne ok hn h
        · by_cases q : i = j
          · subst q
            rw [List.getElem?_set_self hi] at h1
            cases h1
            simp [Slot.owned] at h2
          · rw [List.getElem?_set_ne q] at h1
            exact r.uniq i j _ _ _ _ q hs h1 rfl h2 (ha.trans h3.symm)
      have km : ∀ b o, s.heap.get? b = some o → ¬ c.Ban st.ρ vs b → s.heap.get? b = some o ∧ ¬ c.Ban (st.ρ.set i (.sh d)) vs b := fun b o e n => ⟨e, fun q => n (shr.ban b q)⟩
      refine ⟨⟨by simpa using r.len, fun j n sl h1 h2 => ?_, fun j sl h => ?_, fun j k sj sk p q hjk h1 h2 h3 h4 => ?_, r.tape, r.keep, r.frames, r.rest, r.wIn, r.nsL⟩, shr, by rw [ha]; exact (ht.mono km fun _ e => e).rd nb, rfl⟩
      · by_cases q : i = j
        · subst q
          rw [List.getElem?_set_self hi] at h2
          cases h2
          exact (r.var i n _ h1 hs : VarAt _ _ _ (some _))
        · rw [List.getElem?_set_ne q] at h2
          exact r.var j n sl h1 h2
      · by_cases q : i = j
        · subst q
          rw [List.getElem?_set_self hi] at h
          cases h
          show Rd _ _ _ _ _
          rw [ha]
          exact (ht.mono km fun _ e => e).rd nb
        · rw [List.getElem?_set_ne q] at h
          have z := r.slot j sl h
          unfold SlotR at z ⊢
          cases sl with
          | unset => trivial
          | sh y => exact z.mono km
          | own y => obtain ⟨a, e, r, f⟩ := z; exact ⟨a, e, r.mono km fun _ e => e, f⟩
          | lent y => obtain ⟨a, e, r, f⟩ := z; exact ⟨a, e, r.mono km fun _ e => e, f⟩
          | tape => exact z
      · have nj : i ≠ j := by
          rintro rfl
          rw [List.getElem?_set_self hi] at h1
          cases h1
          simp [Slot.owned] at h3
        have nk : i ≠ k := by
          rintro rfl
          rw [List.getElem?_set_self hi] at h2
          cases h2
          simp [Slot.owned] at h4
        rw [List.getElem?_set_ne nj] at h1
        rw [List.getElem?_set_ne nk] at h2
        exact r.uniq j k _ _ _ _ hjk h1 h2 h3 h4
    · simp only [Option.some.injEq, Prod.mk.injEq] at e
      obtain ⟨rfl, rfl⟩ := e
      exact ⟨r, .refl _, z, rfl⟩

noncomputable def EE (G : GC) (c : FC) {β : Type} (o : Out β) (e : Value) (s' : Shared) : Prop := o = .raise ∧ EP G c e s'

variable {sc : Scope} {vars : List Str} {n : Nat} {A : Around}

theorem SE.use {e : Expr} {F : EF} (h : SE G sc vars n e F) (hsc : c.env.scope = sc) (hv : c.vars = vars) (S : Surr G c n A) (r : SR G c st vs s) {β : Type} {k : AV → St → Out β} {o : Out β}
    (ho : (F st).bind k = o) (ns : o ≠ .stuck) {K : Value → Shared → Prop}
    (next : ∀ av st1 v s1, k av st1 = o → SR G c st1 vs s1 → KeepBut c.τ s.heap s1.heap → Shares st1.ρ st.ρ → VR G.w c st1.ρ vs s1.heap v av → Fresh s.heap v av → K v s1) :
    wpAny G.M A (eval e c.env) K (EE G c o) s := by
  refine wpAny_mono (h c A st vs s hsc hv S r ?_) (fun v s1 q => ?_) fun e s' q => ?_
  · intro z
    rw [z] at ho
    exact ns ho.symm
  · cases hf : F st with
    | ok av st1 =>
      rw [hf] at q ho
      obtain ⟨q1, q2, q3, q4, q5⟩ := q
      exact next av st1 v s1 ho q1 q2 q3 q4 q5
    | raise => rw [hf] at q; cases q
    | stuck => rw [hf] at q; cases q
  · obtain ⟨q1, q2⟩ := q
    rw [q1] at ho
    exact ⟨ho.symm, q2⟩
theorem SB.use {e : Expr} {F : BF} (h : SB G sc vars n e F) (hsc : c.env.scope = sc) (hv : c.vars = vars) (S : Surr G c n A) (r : SR G c st vs s) {β : Type} {k : Bool → St → Out β} {o : Out β}
    (ho : (F st).bind k = o) (ns : o ≠ .stuck) {K : Bool → Shared → Prop}
    (next : ∀ b st1 s1, k b st1 = o → SR G c st1 vs s1 → KeepBut c.τ s.heap s1.heap → Shares st1.ρ st.ρ → K b s1) :
    wpAny G.M A (isTrue e c.env (eval e c.env)) K (EE G c o) s := by
  refine wpAny_mono (h c A st vs s hsc hv S r ?_) (fun v s1 q => ?_) fun e s' q => ?_
  · intro z
    rw [z] at ho
    exact ns ho.symm
  · cases hf : F st with
    | ok av st1 =>
      rw [hf] at q ho
      obtain ⟨q1, q2, q3, rfl⟩ := q
      exact next _ st1 s1 ho q1 q2 q3
    | raise => rw [hf] at q; cases q
    | stuck => rw [hf] at q; cases q
  · obtain ⟨q1, q2⟩ := q
    rw [q1] at ho
    exact ⟨ho.symm, q2⟩

noncomputable def PO (G : GC) (A : Around) (s : Shared) (B : Addr → Prop) (t : Sem Value) (z : PyData) (f : Bool) : Prop :=
  ∀ E : Value → Shared → Prop, wpAny G.M A t (fun v s' => KeepAll s.heap s'.heap ∧ (s'.gens = s.gens ∧ s'.drawn = s.drawn ∧ s'.os = s.os) ∧ Rd G.w s'.heap B v z ∧ (f = true → ∃ a, v = .ref a ∧ s.heap.get? a = none)) E s

theorem fresh_back {a : Addr} (k : KeepBut c.τ s.heap s'.heap) (r : SR G c st vs s') (e : s'.heap.get? a = none) : s.heap.get? a = none := by
  cases q : s.heap.get? a with
  | none => rfl
  | some o =>
    by_cases z : a = c.τ
    · subst z
      obtain ⟨v, n, h⟩ := r.tauAt
      rw [h] at e; cases e
    · rw [k a o z q] at e; cases e

theorem finE {t : Sem Value} {o : Out AV} {z : PyData} {f : Bool} {st2 : St} {s2 : Shared} (ho : Out.ok (.dat z f) st2 = o) (S : Surr G c n A) (r : SR G c st2 vs s2) (k : KeepBut c.τ s.heap s2.heap) (sh : Shares st2.ρ st.ρ)
    (p : PO G A s2 (c.Ban st2.ρ vs) t z f) {E : Value → Shared → Prop} : wpAny G.M A t (QE G c st vs s o) E s2 := by
  subst ho
  refine wpAny_mono (p _) (fun v s' q => ?_) fun _ _ x => x
  obtain ⟨q1, q2, q3, q4⟩ := q
  refine ⟨r.keepAll S.ok q1 q2, k.trans (q1.but _), sh, q3, ?_⟩
  cases f with
  | false => trivial
  | true =>
    obtain ⟨a, e, h⟩ := q4 rfl
    exact ⟨a, e, fresh_back k r h⟩
theorem finB {o : Out Bool} {b : Bool} {st2 : St} {s2 : Shared} (ho : Out.ok b st2 = o) (S : Surr G c n A) (r : SR G c st2 vs s2) (k : KeepBut c.τ s.heap s2.heap) (sh : Shares st2.ρ st.ρ)
    {s3 : Shared} (q1 : KeepAll s2.heap s3.heap) (q2 : s3.gens = s2.gens ∧ s3.drawn = s2.drawn ∧ s3.os = s2.os) : QB G c st vs s o b s3 := by
  subst ho
  exact ⟨r.keepAll S.ok q1 q2, k.trans (q1.but _), sh, rfl⟩
end
end Mine
namespace Mine
open PySem PySem.W PySem.Calls PyProof.Rows

noncomputable def toI : PyData → Option Int
  | .int i => some i
  | _ => none
noncomputable def intsD {α : Type} (x y : PyData) (f : Int → Int → Option α) : Option α := (toI x).bind fun a => (toI y).bind fun b => f a b
noncomputable def addD (x y : PyData) : Option (PyData × Bool) := match x with
  | .int a => (toI y).map fun b => (.int (a + b), false)
  | .str a => (match y with | .str b => some b | _ => none).bind fun b => if 0 < a.length ∧ 0 < b.length ∧ a.length + b.length ≤ 10000 then some (.str (a ++ b), false) else none
  | .list a => (match y with | .list b => some b | _ => none).bind fun b => if a.length + b.length ≤ 10000 then some (.list (a ++ b), true) else none
  | .tuple a => (match y with | .tuple b => some b | _ => none).bind fun b => if a.length ≠ 0 ∧ a.length + b.length ≤ 10000 then some (.tuple (a ++ b), false) else none
  | _ => none
noncomputable def binD (op : Operator) (x y : PyData) : Option (PyData × Bool) := match op with
  | .Add => addD x y
  | .Sub => intsD x y fun a b => some (.int (a - b), false)
  | .FloorDiv => intsD x y fun a b => if b ≠ 0 ∧ b.natAbs < 1073741824 then some (.int (a.fdiv b), false) else none
  | .Mod => intsD x y fun a b => if b ≠ 0 then some (.int (a.fmod b), false) else none
  | .Pow => intsD x y fun a b => if 0 ≤ b ∧ b ≤ 1000 ∧ a.natAbs < 2 ^ 64 then some (.int (a ^ b.toNat), false) else none
  | _ => none
theorem intsD_some {α : Type} {x y : PyData} {f : Int → Int → Option α} {r : α} (e : intsD x y f = some r) : ∃ a b, x = .int a ∧ y = .int b ∧ f a b = some r := by
  obtain ⟨a, ha, e⟩ := Option.bind_eq_some_iff.mp e
  obtain ⟨b, hb, e⟩ := Option.bind_eq_some_iff.mp e
  cases x <;> cases ha
  cases y <;> cases hb
  exact ⟨_, _, rfl, rfl, e⟩
theorem if_some {α : Type} {c : Prop} [Decidable c] {x y : α} (e : (if c then some x else none) = some y) : c ∧ x = y := by
  split at e
  · exact ⟨‹_›, Option.some.inj e⟩
  · cases e

section
variable {G : GC} {A : Around} {s : Shared} {B : Addr → Prop} {a b : Value} {x y z : PyData} {f : Bool}

theorem PO.int {t : Sem Value} {i : Int} (h : ∀ (E : Value → Shared → Prop) (Q : Value → Shared → Prop), (∀ u k, Q (.int i u) { s with toks := k }) → wpAny G.M A t Q E s) : PO G A s B t (.int i) false :=
  fun E => h E _ fun u k => ⟨KeepAll.refl _, ⟨rfl, rfl, rfl⟩, .int _ _, fun q => by cases q⟩
theorem PO.bool {t : Sem Value} {i : Bool} (h : ∀ (E : Value → Shared → Prop) (Q : Value → Shared → Prop), (∀ k, Q (.bool i) { s with toks := k }) → wpAny G.M A t Q E s) : PO G A s B t (.bool i) false :=
  fun E => h E _ fun k => ⟨KeepAll.refl _, ⟨rfl, rfl, rfl⟩, .bool _, fun q => by cases q⟩
theorem PO.str {t : Sem Value} {i : Str} (h : ∀ (E : Value → Shared → Prop) (Q : Value → Shared → Prop), (∀ u k, Q (.str i u) { s with toks := k }) → wpAny G.M A t Q E s) : PO G A s B t (.str i) false :=
  fun E => h E _ fun u k => ⟨KeepAll.refl _, ⟨rfl, rfl, rfl⟩, .str _ _, fun q => by cases q⟩
theorem PO.old {t : Sem Value} {v : Value} (r : Rd G.w s.heap B v x) (h : ∀ (E : Value → Shared → Prop) (Q : Value → Shared → Prop), (∀ k, Q v { s with toks := k }) → wpAny G.M A t Q E s) : PO G A s B t x false :=
  fun E => h E _ fun k => ⟨KeepAll.refl _, ⟨rfl, rfl, rfl⟩, r, fun q => by cases q⟩

theorem size_none (h : Heap) : h.get? h.objs.size = none := by
  cases e : h.get? h.objs.size with
  | none => rfl
  | some o => exact absurd (Heap.lt_size e) (Nat.lt_irrefl _)
theorem newB (hB : ∀ b, B b → ∃ o, s.heap.get? b = some o) : ¬ B s.heap.objs.size := fun q => by
  obtain ⟨o, e⟩ := hB _ q
  rw [size_none] at e
  cases e

theorem PO.list {t : Sem Value} {vs : List Value} {xs : List PyData} (hB : ∀ b, B b → ∃ o, s.heap.get? b = some o) (r : RdAll G.w s.heap B vs xs)
    (h : ∀ (E : Value → Shared → Prop) (Q : Value → Shared → Prop), (∀ k, Q (.ref s.heap.objs.size) { s with heap := s.heap.push (LObj vs.toArray 0), toks := k }) → wpAny G.M A t Q E s) : PO G A s B t (.list xs) true :=
  fun E => h E _ fun k => ⟨KeepAll.push _ _, ⟨rfl, rfl, rfl⟩, .list (Heap.get?_push_size _ rfl) (newB hB) (by simpa using r.keep (KeepAll.push _ _)), fun _ => ⟨_, rfl, size_none _⟩⟩
theorem PO.tuple {t : Sem Value} {vs : List Value} {xs : List PyData} (hB : ∀ b, B b → ∃ o, s.heap.get? b = some o) (r : RdAll G.w s.heap B vs xs)
    (h : ∀ (E : Value → Shared → Prop) (Q : Value → Shared → Prop), (∀ k, Q (.ref s.heap.objs.size) { s with heap := s.heap.push (TObj vs.toArray 0), toks := k }) → wpAny G.M A t Q E s) : PO G A s B t (.tuple xs) false :=
  fun E => h E _ fun k => ⟨KeepAll.push _ _, ⟨rfl, rfl, rfl⟩, .tuple (Heap.get?_push_size _ rfl) (newB hB) (by simpa using r.keep (KeepAll.push _ _)), fun q => by cases q⟩

theorem sizeLine_le {n : Nat} (h : n ≤ 16000000) : n ≤ sizeLine := by rw [sizeLine_eq]; omega

theorem addD_sound (hB : ∀ b, B b → ∃ o, s.heap.get? b = some o) (ra : RdV G.w s.heap B a x) (rb : RdV G.w s.heap B b y) (e : addD x y = some (z, f)) : PO G A s B (binaryOp .Add a b) z f := by
  cases x with
  | int i =>
    obtain ⟨j, hb, e⟩ := Option.map_eq_some_iff.mp e
    cases y <;> cases hb
    cases e; obtain ⟨t, rfl⟩ := ra.int_inv; obtain ⟨u, rfl⟩ := rb.int_inv
    exact .int fun E Q h => P.add_int (h _ _)
  | str i =>
    obtain ⟨j, hb, e⟩ := Option.bind_eq_some_iff.mp e
    cases y <;> cases hb
    obtain ⟨h0, e⟩ := if_some e
    cases e; obtain ⟨t, rfl⟩ := ra.str_inv; obtain ⟨u, rfl⟩ := rb.str_inv
    refine .str fun E Q h => P.add_str ?_
    rw [if_neg (by simp; omega), if_neg (by simp; omega)]
    refine ⟨?_, h _ _⟩
    rw [Str.length_append]
    exact sizeLine_le (by omega)
  | list i =>
    obtain ⟨j, hb, e⟩ := Option.bind_eq_some_iff.mp e
    cases y <;> cases hb
    obtain ⟨h0, e⟩ := if_some e
    cases e
    obtain ⟨a1, v1, n1, rfl, e1, r1⟩ := ra.list_inv
    obtain ⟨a2, v2, n2, rfl, e2, r2⟩ := rb.list_inv
    have l1 : v1.size = _ := r1.length
    have l2 : v2.size = _ := r2.length
    refine PO.list hB (r1.append r2) fun E Q h => P.add_list (n := n1) (n2 := n2) e1 e2 ?_ (sizeLine_le (by omega))
    have := h s.toks
    rw [← Array.toList_append, Array.toArray_toList] at this
    exact this
  | tuple i =>
    obtain ⟨j, hb, e⟩ := Option.bind_eq_some_iff.mp e
    cases y <;> cases hb
    obtain ⟨h0, e⟩ := if_some e
    cases e
    obtain ⟨a1, v1, n1, rfl, e1, r1⟩ := ra.tuple_inv
    obtain ⟨a2, v2, n2, rfl, e2, r2⟩ := rb.tuple_inv
    have l1 : v1.size = _ := r1.length
    have l2 : v2.size = _ := r2.length
    have ne : ¬ v1.isEmpty = true := fun q => h0.1 (l1 ▸ Array.isEmpty_iff_size_eq_zero.mp q)
    by_cases q : v2.isEmpty = true
    · have hy0 : j = [] := List.eq_nil_of_length_eq_zero (l2 ▸ Array.isEmpty_iff_size_eq_zero.mp q)
      subst hy0
      have ro : Rd G.w s.heap B (.ref a1) (.tuple i) := by
        cases ra with
        | rd r => exact r
        | top r => cases r
      exact PO.old (by rwa [List.append_nil]) fun E Q h => PySem.concat_meets ⟨_, e1, rfl⟩ ⟨_, e2, rfl⟩ noFill_tuple_add seq_tuple_add F.slot_tuple_add F.entry_tuple_add (F.args_tuple_add_2 _ _) (AutoSeq1.tuple___add___tuple_tuple_1 a1 v1 n1 a2 v2 n2 ne q) ⟨e1, e2, h s.toks⟩
    · refine PO.tuple hB (r1.append r2) fun E Q h => P.add_tuple (n := n1) (n2 := n2) e1 e2 ne q ?_ (sizeLine_le (by omega))
      have := h s.toks
      rw [← Array.toList_append, Array.toArray_toList] at this
      exact this
  | _ => cases e
theorem binD_sound (hB : ∀ b, B b → ∃ o, s.heap.get? b = some o) {op : Operator} (ra : RdV G.w s.heap B a x) (rb : RdV G.w s.heap B b y) (e : binD op x y = some (z, f)) : PO G A s B (binaryOp op a b) z f := by
  have nums : ∀ {g : Int → Int → Option (PyData × Bool)}, intsD x y g = some (z, f) → (∀ i j t u, g i j = some (z, f) → PO G A s B (binaryOp op (.int i t) (.int j u)) z f) → PO G A s B (binaryOp op a b) z f := fun e k => by
    obtain ⟨i, j, rfl, rfl, e⟩ := intsD_some e
    obtain ⟨t, rfl⟩ := ra.int_inv
    obtain ⟨u, rfl⟩ := rb.int_inv
    exact k _ _ _ _ e
  cases op with
  | Add => exact addD_sound hB ra rb e
  | Sub => exact nums e fun _ _ _ _ e => by cases e; exact .int fun E Q h => P.sub_int (h _ _)
  | FloorDiv => exact nums e fun _ _ _ _ e => by obtain ⟨h0, e⟩ := if_some e; cases e; exact .int fun E Q h => PyProof.Rows.floordiv_int h0.1 (h _ _) (.inl (PyProof.noPylong_small h0.2))
  | Mod => exact nums e fun _ _ _ _ e => by obtain ⟨h0, e⟩ := if_some e; cases e; exact .int fun E Q h => PyProof.Rows.mod_int' h0 (h _ _)
  | Pow => exact nums e fun _ _ _ _ e => by obtain ⟨h0, e⟩ := if_some e; cases e; exact .int fun E Q h => PyProof.Rows.pow_int_small h0.1 (by omega) h0.2.2 (h _ _)
  | _ => cases e
end
end Mine

namespace Mine
open PySem PySem.W PySem.Calls PyProof.Rows

section
variable {w : World} {h : Heap} {B : Addr → Prop}
theorem Rd.reads2 : (∀ {v x}, Rd w h B v x → x.canLay0 = true → ∃ as, Reads h v x as) ∧ (∀ {v x}, RdAll w h B v x → PyData.canLayAll0 x = true → ∃ as, ReadsAll h v x as) ∧ (∀ {v d}, RdEnts w h B v d → True) :=
  Rd.ind3 (fun _ => ⟨_, .none⟩) (fun b _ => ⟨_, .bool b⟩) (fun i t _ => ⟨_, .int i t⟩) (fun x t _ => ⟨_, .str x t⟩)
    (fun e _ r k => (r k).elim fun _ q => ⟨_, .tuple e rfl rfl q⟩) (fun e _ r k => (r k).elim fun _ q => ⟨_, .list e rfl rfl q⟩) (fun _ _ _ _ _ k => nomatch (show false = true from k))
    (fun _ => ⟨_, .nil⟩) (fun a b k => have k' := Bool.and_eq_true_iff.mp k; (a k'.1).elim fun _ q => (b k'.2).elim fun _ p => ⟨_, .cons q p⟩) trivial (fun _ _ _ _ => trivial)
theorem Rd.reads {v : Value} {x : PyData} (r : Rd w h B v x) : x.canLay0 = true → ∃ as, Reads h v x as := Rd.reads2.1 r
theorem RdAll.reads {v : List Value} {x : List PyData} (r : RdAll w h B v x) : PyData.canLayAll0 x = true → ∃ as, ReadsAll h v x as := Rd.reads2.2.1 r
theorem RdV.reads {v : Value} {x : PyData} (r : RdV w h B v x) (k : x.canLay0 = true) : ∃ as, Reads h v x as := by
  cases r with
  | rd r => exact r.reads k
  | top r =>
    cases r with
    | list e r =>
      obtain ⟨_, q⟩ := r.reads (by simpa [PyData.canLay0] using k)
      exact ⟨_, .list e rfl rfl q⟩
    | dict => simp [PyData.canLay0] at k
end

noncomputable def okD (x : PyData) : Bool := x.canLay0 && decide (x.depth ≤ 8)
noncomputable def isIntK : PyData → Bool
  | .int _ => true
  | _ => false
noncomputable def isStrK : PyData → Bool
  | .str _ => true
  | _ => false
noncomputable def isTupK : PyData → Bool
  | .tuple xs => xs.all isIntK
  | _ => false
noncomputable def keysOk (k : PyData) (kvs : List (PyData × PyData)) : Bool :=
  (isIntK k && kvs.all fun p => isIntK p.1) || (isTupK k && kvs.all fun p => isTupK p.1) || (isStrK k && kvs.all fun p => isStrK p.1)
noncomputable def dget (k : PyData) : List (PyData × PyData) → Option PyData
  | [] => none
  | (a, v) :: r => if PyData.eqv a k then some v else dget k r
noncomputable def dset (k v : PyData) : List (PyData × PyData) → List (PyData × PyData)
  | [] => [(k, v)]
  | (a, u) :: r => if PyData.eqv a k then (a, v) :: r else (a, u) :: dset k v r

noncomputable def inD (x y : PyData) : Option Bool := match y with
  | .tuple ys => if okD x && okD (.tuple ys) then some (ys.any fun y => PyData.eqv y x) else none
  | .list ys => if okD x && okD (.list ys) then some (ys.any fun y => PyData.eqv y x) else none
  | .dict kvs => if keysOk x kvs then some (dget x kvs).isSome else none
  | _ => none
noncomputable def isD (x : PyData) : Option Bool := match x with
  | .none => some true
  | .dict _ => some false
  | _ => none
noncomputable def isNoneK : PyData → Bool
  | .none => true
  | _ => false
noncomputable def cmpD (op : CmpOp) (x y : PyData) : Option Bool := match op with
  | .Lt => intsD x y fun a b => some (decide (a < b))
  | .LtE => intsD x y fun a b => some (decide (a ≤ b))
  | .Gt => intsD x y fun a b => some (decide (b < a))
  | .GtE => intsD x y fun a b => some (decide (b ≤ a))
  | .Eq => if okD x && okD y then some (PyData.eqv x y) else none
  | .NotEq => if okD x && okD y then some (!PyData.eqv x y) else none
  | .In => inD x y
  | .NotIn => (inD x y).map (!·)
  | .Is => if isNoneK y then isD x else none
  | _ => none

section
variable {prog : Program} {w : World} {h : Heap} {B : Addr → Prop}

theorem nodup_of_map {α β : Type} {f : α → β} {l : List α} (h : (l.map f).Nodup) : l.Nodup := (List.pairwise_map.mp h).imp fun {a b} (q : f a ≠ f b) (e : a = b) => q (congrArg f e)
theorem eqv_int (a b : Int) : PyData.eqv (.int a) (.int b) = decide (a = b) := by
  simp only [PyData.eqv]; by_cases q : a = b <;> simp [q]
theorem eqv_str (a b : Str) : PyData.eqv (.str a) (.str b) = decide (a = b) := by
  simp only [PyData.eqv]; by_cases q : a = b <;> simp [q]
theorem eqvAll_ints : ∀ a b : List Int, PyData.eqvAll (a.map .int) (b.map .int) = decide (a = b) := by
  intro x_
  induction x_ with
  | nil => intro b; cases b <;> simp [PyData.eqvAll]
  | cons x xs ih =>
    intro b
    cases b with | nil => simp [PyData.eqvAll] | cons y ys => ?_
    simp only [List.map_cons, PyData.eqvAll, eqv_int, ih ys, List.cons.injEq]
    by_cases p : x = y <;> by_cases q : xs = ys <;> simp [p, q]
theorem eqv_tup (a b : List Int) : PyData.eqv (.tuple (a.map .int)) (.tuple (b.map .int)) = decide (a = b) := by
  simp only [PyData.eqv]; exact eqvAll_ints a b
theorem tupK_inv {x : PyData} (e : isTupK x = true) : ∃ ks : List Int, x = .tuple (ks.map .int) := by
  cases x with
  | tuple xs =>
    simp only [isTupK] at e
    suffices ∃ ks : List Int, xs = ks.map PyData.int by obtain ⟨ks, rfl⟩ := this; exact ⟨ks, rfl⟩
    induction xs with
    | nil => exact ⟨[], rfl⟩
    | cons y ys ih =>
      simp only [List.all_cons, Bool.and_eq_true] at e
      obtain ⟨ks, rfl⟩ := ih e.2
      cases y <;> simp [isIntK] at e
      rename_i i
      exact ⟨i :: ks, rfl⟩
  | _ => simp [isTupK] at e

theorem ents_val {K : Type} [DecidableEq K] {knd : KeyKind prog w K} {enc : K → PyData} (henc : ∀ a b, PyData.eqv (enc a) (enc b) = decide (a = b))
    (hrd : ∀ k v, Rd w h B v (enc k) → knd.is k v = true) (hh : ∀ k, hkey w (enc k) = knd.hash k) :
    ∀ {es : List DictEntry} {kvs : List (PyData × PyData)}, RdEnts w h B es kvs → (∀ p ∈ kvs, ∃ k, p.1 = enc k) →
      ∃ kv : List (K × Value), Pairs knd es kv ∧ (∀ e ∈ es, ∃ k, knd.is k e.key = true ∧ e.hash = knd.hash k) ∧ kvs.map (·.1) = kv.map (fun p => enc p.1) ∧ RdAll w h B (kv.map (·.2)) (kvs.map (·.2)) ∧
        (∀ k, (valueAt kv k).isSome = (dget (enc k) kvs).isSome) ∧ (∀ k x, dget (enc k) kvs = some x → ∃ v, valueAt kv k = some v ∧ Rd w h B v x) := by
  intro es kvs H
  refine RdEnts.ind (P := fun es kvs => (∀ p ∈ kvs, ∃ k, p.1 = enc k) →
      ∃ kv : List (K × Value), Pairs knd es kv ∧ (∀ e ∈ es, ∃ k, knd.is k e.key = true ∧ e.hash = knd.hash k) ∧ kvs.map (·.1) = kv.map (fun p => enc p.1) ∧ RdAll w h B (kv.map (·.2)) (kvs.map (·.2)) ∧
        (∀ k, (valueAt kv k).isSome = (dget (enc k) kvs).isSome) ∧ (∀ k x, dget (enc k) kvs = some x → ∃ v, valueAt kv k = some v ∧ Rd w h B v x)) ?_ ?_ H
  · exact fun _ => ⟨[], .nil, (fun _ he => nomatch he), rfl, .nil, fun _ => rfl, fun _ _ e => nomatch e⟩
  · intro hs0 kv0 v0 es dk dv kvs e1 r1 r2 ih hk
    refine hide fun b_ hb_ => ?_
    obtain ⟨k, hk0⟩ := hk _ (List.mem_cons_self)
    obtain ⟨kv, p1, p2, p3, p4, p5, p6⟩ := ih fun p hp => hk p (List.mem_cons_of_mem _ hp)
    simp only at hk0
    subst hk0
    refine hb_ ?_
    have hi := hrd _ _ r1
    refine ⟨(k, v0) :: kv, .cons hi rfl p1, ?_, by simp [p3], .cons r2 p4, fun k' => ?_, fun k' x hx => ?_⟩
    · intro e he
      rcases List.mem_cons.mp he with rfl | he
      · exact ⟨k, hi, by rw [e1, hh]⟩
      · exact p2 e he
    · simp only [dget, henc, valueAt, List.find?_cons]
      by_cases q : k = k'
      · simp [q]
      · simp only [q, decide_false, Bool.false_eq_true, if_false]
        exact p5 k'
    · simp only [dget, henc] at hx
      by_cases q : k = k'
      · simp only [q, decide_true, if_true, Option.some.injEq] at hx
        subst hx
        exact ⟨v0, by simp [valueAt, q], r2⟩
      · simp only [q, decide_false, Bool.false_eq_true, if_false] at hx
        obtain ⟨v, h1, h2⟩ := p6 k' x hx
        exact ⟨v, by simpa [valueAt, List.find?_cons, q] using h1, h2⟩

theorem dictOf_of {K : Type} [DecidableEq K] {knd : KeyKind prog w K} {enc : K → PyData} (henc : ∀ a b, PyData.eqv (enc a) (enc b) = decide (a = b)) 
    (hrd : ∀ k v, Rd w h B v (enc k) → knd.is k v = true) (hh : ∀ k, hkey w (enc k) = knd.hash k) {d : Addr} {es : Array DictEntry} {n : Nat} {kvs : List (PyData × PyData)}
    (e : h.get? d = some (DObj es n)) (r : RdEnts w h B es.toList kvs) (nd : (kvs.map (·.1)).Nodup) (hk : ∀ p ∈ kvs, ∃ k, p.1 = enc k) :
    ∃ kv : List (K × Value), h.DictOf knd d kv ∧ kvs.map (·.1) = kv.map (fun p => enc p.1) ∧ RdAll w h B (kv.map (·.2)) (kvs.map (·.2)) ∧
        (∀ k, (valueAt kv k).isSome = (dget (enc k) kvs).isSome) ∧ (∀ k x, dget (enc k) kvs = some x → ∃ v, valueAt kv k = some v ∧ Rd w h B v x) := by
  refine hide fun b_ hb_ => ?_
  obtain ⟨kv, p1, p2, p3, p4, p5, p6⟩ := ents_val henc hrd hh r hk
  refine hb_ ?_
  refine ⟨kv, ⟨_, es, n, e, ⟨rfl, rfl, rfl⟩, rfl, fun x hx => p2 x (Array.mem_toList_iff.mpr hx), p1, ?_⟩, p3, p4, p5, p6⟩
  rw [p3] at nd
  have : kv.map (fun p => enc p.1) = (kv.map (·.1)).map enc := by simp
  rw [this] at nd
  exact nodup_of_map nd

theorem int_hrd : ∀ (k : Int) (v : Value), Rd w h B v (.int k) → (intKind prog w).is k v = true := fun k v r => by cases r; simp [intKind, Value.isInt]
theorem str_hrd : ∀ (k : Str) (v : Value), Rd w h B v (.str k) → (PySem.strKind prog w).is k v = true := fun k v r => by cases r; simp [PySem.strKind, Value.isStrOf]

theorem itemsAre_of {vs : List Value} {ks : List Int} (r : RdAll w h B vs (ks.map .int)) : ItemsAre (intKind prog w) ks vs := by
  induction ks generalizing vs with
  | nil => cases r; exact .nil
  | cons k ks ih =>
    cases r with
    | cons a b => exact .cons (int_hrd _ _ a) (ih b)
theorem tup_is {v : Value} {ks : List Int} (r : Rd w h B v (.tuple (ks.map .int))) : ∃ a, v = .ref a ∧ IsTupleKey (intKind prog w) h ks a := by
  cases r with
  | tuple e n r => exact ⟨_, rfl, _, _, _, e, rfl, rfl, itemsAre_of r⟩
theorem tup_hash (ks : List Int) : hkey w (.tuple (ks.map .int)) = tupleKeyHash (intKind prog w) ks := by
  unfold hkey tupleKeyHash
  congr 2
  simp [intKind, Function.comp_def]

theorem ents_tup : ∀ {es : List DictEntry} {kvs : List (PyData × PyData)}, RdEnts w h B es kvs → (∀ p ∈ kvs, ∃ ks : List Int, p.1 = .tuple (ks.map .int)) →
      ∃ xs : List (List Int × Addr × Value), es = xs.map (entryOfKey (tupleKind (intKind prog w))) ∧ (∀ x ∈ xs, IsTupleKey (intKind prog w) h x.1 x.2.1 ∧ Rd w h B (.ref x.2.1) (.tuple (x.1.map .int))) ∧
        kvs.map (·.1) = xs.map (fun p => .tuple (p.1.map .int)) ∧ RdAll w h B (xs.map (·.2.2)) (kvs.map (·.2)) ∧
        (∀ k, (atKey xs k).isSome = (dget (.tuple (k.map .int)) kvs).isSome) ∧ (∀ k x, dget (.tuple (k.map .int)) kvs = some x → ∃ p, atKey xs k = some p ∧ Rd w h B p.2 x) := by
  intro es kvs H
  refine RdEnts.ind (P := fun es kvs => (∀ p ∈ kvs, ∃ ks : List Int, p.1 = .tuple (ks.map .int)) →
      ∃ xs : List (List Int × Addr × Value), es = xs.map (entryOfKey (tupleKind (intKind prog w))) ∧ (∀ x ∈ xs, IsTupleKey (intKind prog w) h x.1 x.2.1 ∧ Rd w h B (.ref x.2.1) (.tuple (x.1.map .int))) ∧
        kvs.map (·.1) = xs.map (fun p => .tuple (p.1.map .int)) ∧ RdAll w h B (xs.map (·.2.2)) (kvs.map (·.2)) ∧
        (∀ k, (atKey xs k).isSome = (dget (.tuple (k.map .int)) kvs).isSome) ∧ (∀ k x, dget (.tuple (k.map .int)) kvs = some x → ∃ p, atKey xs k = some p ∧ Rd w h B p.2 x)) ?_ ?_ H
  · exact fun _ => ⟨[], rfl, (fun _ he => nomatch he), rfl, .nil, fun _ => rfl, fun _ _ e => nomatch e⟩
  · intro hs0 kv0 v0 es dk dv kvs e1 r1 r2 ih hk
    refine hide fun b_ hb_ => ?_
    obtain ⟨k, hk0⟩ := hk _ (List.mem_cons_self)
    obtain ⟨xs, p1, p2, p3, p4, p5, p6⟩ := ih fun p hp => hk p (List.mem_cons_of_mem _ hp)
    simp only at hk0
    subst hk0
    obtain ⟨a, rfl, hi⟩ := tup_is (prog := prog) r1
    refine hb_ ?_
    refine ⟨(k, a, v0) :: xs, ?_, ?_, by simp [p3], .cons r2 p4, fun k' => ?_, fun k' x hx => ?_⟩
    · rw [List.map_cons, ← p1, e1, tup_hash (prog := prog)]; rfl
    · intro x hx
      rcases List.mem_cons.mp hx with rfl | hx
      · exact ⟨hi, r1⟩
      · exact p2 x hx
    · simp only [dget, eqv_tup, atKey, List.find?_cons]
      by_cases q : k = k'
      · simp [q]
      · simp only [q, decide_false, Bool.false_eq_true, if_false]
        exact p5 k'
    · simp only [dget, eqv_tup] at hx
      by_cases q : k = k'
      · simp only [q, decide_true, if_true, Option.some.injEq] at hx
        subst hx
        exact ⟨(a, v0), by simp [atKey, q], r2⟩
      · simp only [q, decide_false, Bool.false_eq_true, if_false] at hx
        obtain ⟨v, h1, h2⟩ := p6 k' x hx
        exact ⟨v, by simpa [atKey, List.find?_cons, q] using h1, h2⟩
theorem enc_tup_inj : ∀ a b : List Int, (PyData.tuple (a.map .int)) = .tuple (b.map .int) → a = b := by
  intro a b e
  have := eqv_tup a b
  rw [e] at this
  have z := eqv_tup b b
  rw [z] at this
  simpa using this.symm
theorem nodup_tup {xs : List (List Int × Addr × Value)} {kvs : List (PyData × PyData)} (p : kvs.map (·.1) = xs.map (fun p => PyData.tuple (p.1.map .int))) (nd : (kvs.map (·.1)).Nodup) : (xs.map (·.1)).Nodup := by
  rw [p] at nd
  have : xs.map (fun p => PyData.tuple (p.1.map .int)) = (xs.map (·.1)).map fun k => PyData.tuple (k.map .int) := by simp
  rw [this] at nd
  exact nodup_of_map nd
end
end Mine

namespace Mine
open PySem PySem.W PySem.Calls PyProof.Rows
section
variable {G : GC} {A : Around} {s : Shared} {B : Addr → Prop} {a b : Value} {x y z : PyData}

theorem keys_int {kvs : List (PyData × PyData)} (h : (kvs.all fun p => isIntK p.1) = true) : ∀ p ∈ kvs, ∃ k, p.1 = PyData.int k := by
  intro p hp
  have := List.all_eq_true.mp h p hp
  obtain ⟨p1, p2⟩ := p
  cases p1 <;> simp [isIntK] at this
  exact ⟨_, rfl⟩
theorem keys_str {kvs : List (PyData × PyData)} (h : (kvs.all fun p => isStrK p.1) = true) : ∀ p ∈ kvs, ∃ k, p.1 = PyData.str k := by
  intro p hp
  have := List.all_eq_true.mp h p hp
  obtain ⟨p1, p2⟩ := p
  cases p1 <;> simp [isStrK] at this
  exact ⟨_, rfl⟩
theorem keys_tup {kvs : List (PyData × PyData)} (h : (kvs.all fun p => isTupK p.1) = true) : ∀ p ∈ kvs, ∃ ks : List Int, p.1 = PyData.tuple (ks.map .int) := by
  intro p hp
  exact tupK_inv (List.all_eq_true.mp h p hp)
theorem sysne {d : Addr} (h : d ≠ sysModules) : (d == sysModules) = false := by simpa using h

theorem inDict (hu : A.units + 1 < cLine) {neg : Bool} {k : PyData} {kvs : List (PyData × PyData)} (ra : RdV G.w s.heap B a k) (rb : RdV G.w s.heap B b (.dict kvs)) (hk : keysOk k kvs = true) :
    PO G A s B (compareOp (if neg then .NotIn else .In) a b) (.bool (if neg then !(dget k kvs).isSome else (dget k kvs).isSome)) false := by
  obtain ⟨d, es, n, rfl, e, sn, nd, re⟩ := rb.dict_inv
  simp only [keysOk, Bool.or_eq_true, Bool.and_eq_true] at hk
  rcases hk with (⟨h1, h2⟩ | ⟨h1, h2⟩) | ⟨h1, h2⟩
  · cases k <;> simp [isIntK] at h1
    rename_i i
    obtain ⟨t, rfl⟩ := ra.int_inv
    obtain ⟨kv, hd, _, _, q, _⟩ := dictOf_of (prog := G.prog) (knd := intKind G.prog G.w) (enc := PyData.int) eqv_int int_hrd (fun _ => rfl) e re nd (keys_int h2)
    have hi : (intKind G.prog G.w).is i (.int i t) = true := by simp [intKind, Value.isInt]
    cases neg
    · exact .bool fun E Q h => wpAny_in_of hi (sysne sn) hd.mapOf (by rw [q]; exact h _)
    · exact .bool fun E Q h => wpAny_notIn_of hi (sysne sn) hd.mapOf (by rw [q]; exact h _)
  · obtain ⟨ks, rfl⟩ := tupK_inv h1
    obtain ⟨xs, p1, p2, p3, p4, p5, p6⟩ := ents_tup (prog := G.prog) re (keys_tup h2)
    have rk : ∃ a', a = .ref a' ∧ IsTupleKey (intKind G.prog G.w) s.heap ks a' := by
      cases ra with
      | rd r => exact tup_is r
      | top r => cases r
    obtain ⟨a', rfl, hi⟩ := rk
    have hm : s.heap.DictOfH (tupleKind (intKind G.prog G.w)) d xs := ⟨_, es, n, e, ⟨rfl, rfl, rfl⟩, rfl, p1, fun x hx => (p2 x hx).1, nodup_tup p3 nd⟩
    cases neg
    · exact .bool fun E Q h => wpAny_in_heap (knd := tupleKind (intKind G.prog G.w)) hu hi (sysne sn) hm (by rw [p5]; exact h _)
    · exact .bool fun E Q h => PyProof.Rows.wpAny_notIn_heap (knd := tupleKind (intKind G.prog G.w)) hu hi (sysne sn) hm (by rw [p5]; exact h _)
  · cases k <;> simp [isStrK] at h1
    rename_i i
    obtain ⟨t, rfl⟩ := ra.str_inv
    obtain ⟨kv, hd, _, _, q, _⟩ := dictOf_of (prog := G.prog) (knd := PySem.strKind G.prog G.w) (enc := PyData.str) eqv_str str_hrd (fun _ => rfl) e re nd (keys_str h2)
    have hi : (PySem.strKind G.prog G.w).is i (.str i t) = true := by simp [PySem.strKind, Value.isStrOf]
    cases neg
    · exact .bool fun E Q h => wpAny_in_of hi (sysne sn) hd.mapOf (by rw [q]; exact h _)
    · exact .bool fun E Q h => wpAny_notIn_of hi (sysne sn) hd.mapOf (by rw [q]; exact h _)

theorem getDict (hu : A.units + 1 < cLine) {k : PyData} {kvs : List (PyData × PyData)} (ra : RdV G.w s.heap B a k) (rb : RdV G.w s.heap B b (.dict kvs)) (hk : keysOk k kvs = true) (hg : dget k kvs = some z) :
    PO G A s B (getItem b a) z false := by
  refine hide fun b_ hb_ => ?_
  obtain ⟨d, es, n, rfl, e, sn, nd, re⟩ := rb.dict_inv
  refine hb_ ?_
  simp only [keysOk, Bool.or_eq_true, Bool.and_eq_true] at hk
  rcases hk with (⟨h1, h2⟩ | ⟨h1, h2⟩) | ⟨h1, h2⟩
  · cases k <;> simp [isIntK] at h1
    rename_i i
    refine hide fun b_ hb_ => ?_
    obtain ⟨t, rfl⟩ := ra.int_inv
    obtain ⟨kv, hd, _, _, _, q⟩ := dictOf_of (prog := G.prog) (knd := intKind G.prog G.w) (enc := PyData.int) eqv_int int_hrd (fun _ => rfl) e re nd (keys_int h2)
    have hi : (intKind G.prog G.w).is i (.int i t) = true := by simp [intKind, Value.isInt]
    obtain ⟨v, hv, rv⟩ := q _ _ hg
    refine hb_ ?_
    exact .old rv fun E Q h => wpAny_getItem_of hi hd.mapOf hv (h _)
  · refine hide fun b_ hb_ => ?_
    obtain ⟨ks, rfl⟩ := tupK_inv h1
    obtain ⟨xs, p1, p2, p3, p4, p5, p6⟩ := ents_tup (prog := G.prog) re (keys_tup h2)
    have rk : ∃ a', a = .ref a' ∧ IsTupleKey (intKind G.prog G.w) s.heap ks a' := by
      cases ra with
      | rd r => exact tup_is r
      | top r => cases r
    obtain ⟨a', rfl, hi⟩ := rk
    have hm : s.heap.DictOfH (tupleKind (intKind G.prog G.w)) d xs := ⟨_, es, n, e, ⟨rfl, rfl, rfl⟩, rfl, p1, fun x hx => (p2 x hx).1, nodup_tup p3 nd⟩
    obtain ⟨p, hp, rp⟩ := p6 _ _ hg
    refine hb_ ?_
    exact .old rp fun E Q h => wpAny_getItem_heap (knd := tupleKind (intKind G.prog G.w)) hu hi hm hp (h _)
  · cases k <;> simp [isStrK] at h1
    rename_i i
    refine hide fun b_ hb_ => ?_
    obtain ⟨t, rfl⟩ := ra.str_inv
    obtain ⟨kv, hd, _, _, _, q⟩ := dictOf_of (prog := G.prog) (knd := PySem.strKind G.prog G.w) (enc := PyData.str) eqv_str str_hrd (fun _ => rfl) e re nd (keys_str h2)
    have hi : (PySem.strKind G.prog G.w).is i (.str i t) = true := by simp [PySem.strKind, Value.isStrOf]
    obtain ⟨v, hv, rv⟩ := q _ _ hg
    refine hb_ ?_
    exact .old rv fun E Q h => wpAny_getItem_of hi hd.mapOf hv (h _)

theorem okD_inv {x : PyData} (h : okD x = true) : x.canLay0 = true ∧ x.depth ≤ 8 := by
  simp only [okD, Bool.and_eq_true, decide_eq_true_eq] at h; exact h
theorem okD_items {xs : List PyData} (h : okD (.tuple xs) = true) : PyData.canLayAll0 xs = true ∧ PyData.depthAll xs ≤ 8 := by
  obtain ⟨h1, h2⟩ := okD_inv h
  simp only [PyData.canLay0, PyData.depth] at h1 h2
  exact ⟨h1, by omega⟩
theorem okD_itemsL {xs : List PyData} (h : okD (.list xs) = true) : PyData.canLayAll0 xs = true ∧ PyData.depthAll xs ≤ 8 := by
  obtain ⟨h1, h2⟩ := okD_inv h
  simp only [PyData.canLay0, PyData.depth] at h1 h2
  exact ⟨h1, by omega⟩

theorem inD_sound (hu : A.units + 20 < cLine) (neg : Bool) {r : Bool} (ra : RdV G.w s.heap B a x) (rb : RdV G.w s.heap B b y) (e : inD x y = some r) : PO G A s B (compareOp (if neg then .NotIn else .In) a b) (.bool (if neg then !r else r)) false := by
  cases y with
  | tuple ys =>
    obtain ⟨q, e⟩ := if_some e
    subst e
    obtain ⟨q1, q2⟩ := Bool.and_eq_true_iff.mp q
    obtain ⟨k1, d1⟩ := okD_inv q1
    obtain ⟨k2, d2⟩ := okD_items q2
    obtain ⟨as, r1⟩ := ra.reads k1
    obtain ⟨bs, r2⟩ := rb.reads (okD_inv q2).1
    cases neg
    · exact .bool fun E Q h => SeqAt.in_tuple_reads r2 r1 k2 k1 (by omega) (h _)
    · exact .bool fun E Q h => SeqAt.notIn_tuple_reads r2 r1 k2 k1 (by omega) (h _)
  | list ys =>
    obtain ⟨q, e⟩ := if_some e
    subst e
    obtain ⟨q1, q2⟩ := Bool.and_eq_true_iff.mp q
    obtain ⟨k1, d1⟩ := okD_inv q1
    obtain ⟨k2, d2⟩ := okD_itemsL q2
    obtain ⟨as, r1⟩ := ra.reads k1
    obtain ⟨bs, r2⟩ := rb.reads (okD_inv q2).1
    cases neg
    · exact .bool fun E Q h => SeqAt.in_list_reads r2 r1 k2 k1 (by omega) (h _)
    · exact .bool fun E Q h => SeqAt.notIn_list_reads r2 r1 k2 k1 (by omega) (h _)
  | dict kvs =>
    obtain ⟨q, e⟩ := if_some e
    subst e
    exact inDict (neg := neg) (by omega) ra rb q
  | _ => cases e
theorem cmpD_sound (hu : A.units + 20 < cLine) {op : CmpOp} {r : Bool} (ra : RdV G.w s.heap B a x) (rb : RdV G.w s.heap B b y) (e : cmpD op x y = some r) : PO G A s B (compareOp op a b) (.bool r) false := by
  have nums : ∀ {g : Int → Int → Option Bool}, intsD x y g = some r → (∀ i j t u, g i j = some r → PO G A s B (compareOp op (.int i t) (.int j u)) (.bool r) false) → PO G A s B (compareOp op a b) (.bool r) false := fun e k => by
    obtain ⟨i, j, rfl, rfl, e⟩ := intsD_some e
    obtain ⟨t, rfl⟩ := ra.int_inv
    obtain ⟨u, rfl⟩ := rb.int_inv
    exact k _ _ _ _ e
  have eqs : ∀ {r' : Bool}, (if okD x && okD y then some r' else none) = some r → r' = r ∧ x.canLay0 = true ∧ y.canLay0 = true ∧ x.depth ≤ 8 ∧ y.depth ≤ 8 ∧ (∃ as, Reads s.heap a x as) ∧ ∃ bs, Reads s.heap b y bs := fun e => by
    obtain ⟨q, e⟩ := if_some e
    obtain ⟨q1, q2⟩ := Bool.and_eq_true_iff.mp q
    obtain ⟨k1, d1⟩ := okD_inv q1
    obtain ⟨k2, d2⟩ := okD_inv q2
    exact ⟨e, k1, k2, d1, d2, ra.reads k1, rb.reads k2⟩
  cases op with
  | Lt => exact nums e fun _ _ _ _ e => by cases e; exact .bool fun E Q h => P.lt_int (h _)
  | LtE => exact nums e fun _ _ _ _ e => by cases e; exact .bool fun E Q h => P.le_int (h _)
  | Gt => exact nums e fun _ _ _ _ e => by cases e; exact .bool fun E Q h => P.gt_int (h _)
  | GtE => exact nums e fun _ _ _ _ e => by cases e; exact .bool fun E Q h => P.ge_int (h _)
  | Eq => obtain ⟨rfl, k1, k2, d1, d2, ⟨as, r1⟩, bs, r2⟩ := eqs e; exact .bool fun E Q h => SeqAt.compareEq_reads r1 r2 k1 k2 (by omega) (h _)
  | NotEq => obtain ⟨rfl, k1, k2, d1, d2, ⟨as, r1⟩, bs, r2⟩ := eqs e; exact .bool fun E Q h => SeqAt.compareNe_reads r1 r2 k1 k2 (by omega) (h _)
  | In => exact inD_sound hu false ra rb e
  | NotIn =>
    obtain ⟨r, e2, rfl⟩ := Option.map_eq_some_iff.mp e
    exact inD_sound hu true ra rb e2
  | Is =>
    cases y with
    | none =>
      have := rb.none_inv
      subst this
      cases x with
      | none =>
        cases e
        have := ra.none_inv
        subst this
        exact .bool fun E Q h => wpAny_is_self (by rfl) (h _)
      | dict kvs =>
        cases e
        obtain ⟨d, es, n, rfl, _⟩ := ra.dict_inv
        exact .bool fun E Q h => PyProof.Rows.is_none_ne (by intro x; cases x) (h _)
      | _ => cases e
    | _ => cases e
  | _ => cases e
end
end Mine
namespace Mine
open PySem PySem.W PySem.Calls PyProof.Rows

noncomputable def fin2 (o : Option (PyData × Bool)) (st : St) : Out AV := match o with
  | some (z, f) => .ok (.dat z f) st
  | none => .stuck
noncomputable def finT (o : Option Bool) (st : St) : Out Bool := match o with
  | some b => .ok b st
  | none => .stuck
noncomputable def eDat (x : PyData) : EF := fun st => .ok (.dat x false) st
noncomputable def eVar (i : Nat) : EF := fun st => match st.ρ[i]? with
  | some (.own _) => .ok (.var i) st
  | some (.sh _) => .ok (.var i) st
  | some .tape => .ok .tape st
  | _ => .stuck
noncomputable def eOp2 (op : PyData → PyData → Option (PyData × Bool)) (F1 F2 : EF) : EF := fun st => (F1 st).bind fun a st => (F2 st).bind fun b st =>
  fin2 ((a.data st).bind fun x => (b.data st).bind fun y => op x y) st
noncomputable def tst2 (op : PyData → PyData → Option Bool) (F1 F2 : EF) : BF := fun st => (F1 st).bind fun a st => (F2 st).bind fun b st =>
  finT ((a.data st).bind fun x => (b.data st).bind fun y => op x y) st
noncomputable def eOp1 (op : PyData → Option (PyData × Bool)) (F1 : EF) : EF := fun st => (F1 st).bind fun a st => fin2 ((a.data st).bind op) st
noncomputable def negD : PyData → Option (PyData × Bool)
  | .int i => some (.int (-i), false)
  | _ => none
noncomputable def notD : PyData → Option (PyData × Bool)
  | .bool b => some (.bool (!b), false)
  | _ => none
noncomputable def truthD : PyData → Option Bool
  | .bool b => some b
  | _ => none
noncomputable def tOf (F : EF) : BF := fun st => (F st).bind fun a st => finT ((a.data st).bind truthD) st
noncomputable def tNot (F : BF) : BF := fun st => (F st).bind fun b st => .ok (!b) st
noncomputable def tAnd : List BF → BF
  | [] => fun st => .ok true st
  | F :: r => fun st => (F st).bind fun b st => match b with
    | false => .ok false st
    | true => tAnd r st
noncomputable def tOr : List BF → BF
  | [] => fun st => .ok false st
  | F :: r => fun st => (F st).bind fun b st => match b with
    | true => .ok true st
    | false => tOr r st
noncomputable def eIf (T : BF) (F1 F2 : EF) : EF := fun st => (T st).bind fun b st => match b with
  | true => F1 st
  | false => F2 st
noncomputable def eBool (and : Bool) : List EF → EF
  | [] => fun _ => .stuck
  | [F] => F
  | F :: r => fun st => (F st).bind fun a st => match (a.data st).bind truthD with
    | some b => if b == and then eBool and r st else .ok a st
    | none => .stuck

section
variable {G : GC} {c : FC} {st st' : St} {vs : Nat → Value} {s s' : Shared} {v : Value} {av : AV} {x : PyData} {sc : Scope} {vars : List Str} {n : Nat} {A : Around}

theorem banIn (ok : c.Ok G) (r : SR G c st vs s) : ∀ b, c.Ban st.ρ vs b → ∃ o, s.heap.get? b = some o := by
  intro b hb
  rcases hb with h | h | h | ⟨i, sl, x, h1, h2, h3⟩
  · obtain ⟨o, e⟩ := ok.Bin b h
    by_cases q : b = c.τ
    · subst q; obtain ⟨v, n, t⟩ := r.tauAt; exact ⟨_, t⟩
    · exact ⟨o, r.keep b o q e⟩
  · exact r.wIn b h
  · subst h; obtain ⟨v, n, t⟩ := r.tauAt; exact ⟨_, t⟩
  · have z := r.slot i sl h1
    cases sl with
    | own y => obtain ⟨a, e, t, _⟩ := z; rw [h3] at e; cases e; cases t with | list e _ => exact ⟨_, e⟩ | dict e _ _ _ => exact ⟨_, e⟩
    | lent y => obtain ⟨a, e, t, _⟩ := z; rw [h3] at e; cases e; cases t with | list e _ => exact ⟨_, e⟩ | dict e _ _ _ => exact ⟨_, e⟩
    | _ => simp [Slot.owned] at h2


theorem load_var {M : Model} {env : Env} {E : Value → Shared → Prop} {nm : Str} {Q : Value → Shared → Prop} (hk : env.scope.kind = .function) (hv : VarAt s.heap env nm (some v)) (h : Q v s) : wpAny M A (loadName env nm) Q E s := by
  unfold VarAt at hv
  split at hv
  · rename_i e
    obtain ⟨m, hn, hm⟩ := hv
    exact wpAny_loadName_local hk e hn hm h
  · rename_i e
    obtain ⟨ca, h1, h2⟩ := hv
    exact wpAny_loadName_cell hk e h1 h2 h
  · exact hv.elim

theorem room20 (S : Surr G c (n + 1) A) : A.units + 20 < cLine := by have := S.room.2; omega

theorem SE.dat {e : Expr} {x : PyData} (h : ∀ (env : Env) (A : Around) (s : Shared) (E : Value → Shared → Prop) (Q : Value → Shared → Prop), (∀ v k, (∀ h B, Rd G.w h B v x) → Q v { s with toks := k }) → wpAny G.M A (eval e env) Q E s) :
    SE G sc vars n e (eDat x) := by
  intro c A st vs s hsc hv S r ns
  refine h _ _ _ _ _ fun v k hr => ?_
  exact ⟨r.keepAll S.ok (KeepAll.refl _) ⟨rfl, rfl, rfl⟩, (KeepAll.refl _).but _, .refl _, hr _ _, trivial⟩
theorem SE_int {i : Int} {k p} : SE G sc vars n (.Constant (.int i) k p) (eDat (.int i)) := .dat fun _ _ _ _ Q h => wpAny_Constant_int (h _ _ fun _ _ => .int _ _)
theorem SE_str {i : Str} {k p} : SE G sc vars n (.Constant (.str i) k p) (eDat (.str i)) := .dat fun _ _ _ _ Q h => Constant_str (h _ _ fun _ _ => .str _ _)
theorem SE_none {k p} : SE G sc vars n (.Constant .none k p) (eDat .none) := .dat fun _ _ s _ Q h => by
  rw [eval_Constant]; exact wpAny_pure (h .none s.toks fun _ _ => .none)
theorem SE_bool {b k p} : SE G sc vars n (.Constant (.bool b) k p) (eDat (.bool b)) := .dat fun _ _ s _ Q h => by
  rw [eval_Constant]; exact wpAny_pure (h (.bool b) s.toks fun _ _ => .bool b)

theorem SE_var {nm : Str} {p : Pos} (i : Nat) (hi : vars[i]? = some nm) (hd : (nm == ("__debug__" : Str)) = false) : SE G sc vars n (.Name nm p) (eVar i) := by
  intro c A st vs s hsc hv S r ns
  subst hv
  have key : ∀ sl, st.ρ[i]? = some sl → sl ≠ .unset → VarAt s.heap c.env nm (some (vs i)) := fun sl e q => by
    have := r.var i nm sl hi e
    cases sl with
    | unset => exact absurd rfl q
    | _ => exact this
  have go : ∀ sl, st.ρ[i]? = some sl → sl ≠ .unset → QE G c st vs s (eVar i st) (vs i) s → wpAny G.M A (eval (.Name nm p) c.env) (QE G c st vs s (eVar i st)) (fun e s' => eVar i st = .raise ∧ EP G c e s') s :=
    fun sl e q h => wpAny_Name (load_var S.ok.kind (key sl e q) h) hd
  have base : ∀ {av}, VR G.w c st.ρ vs s.heap (vs i) av → Fresh s.heap (vs i) av → QE G c st vs s (.ok av st) (vs i) s := fun h f => ⟨r, .refl _ _, .refl _, h, f⟩
  unfold eVar at ns go ⊢
  cases e : st.ρ[i]? with
  | none => simp [e] at ns
  | some sl =>
    cases sl with
    | unset => simp [e] at ns
    | lent => simp [e] at ns
    | own x => simp only [e] at go ⊢; exact go _ rfl (by simp) (base ⟨rfl, _, x, e, .inl rfl⟩ trivial)
    | sh x => simp only [e] at go ⊢; exact go _ rfl (by simp) (base ⟨rfl, _, x, e, .inr rfl⟩ trivial)
    | tape => simp only [e] at go ⊢; exact go _ rfl (by simp) (base (r.slot i _ e) trivial)

theorem SE_glob {nm : Str} {p : Pos} {i : Int} {t : Tok} (hg : G.mg nm = some (.int i t)) (hk : sc.names.lookup nm = some .globalImplicit) (hd : (nm == ("__debug__" : Str)) = false) : SE G sc vars n (.Name nm p) (eDat (.int i)) := by
  intro c A st vs s hsc hv S r ns
  refine Name_function_global S.ok.kind (by unfold Env.kindOf; rw [hsc]; exact hk) (loadGlobal_global (mg := G.mg) ?_ hg ?_) hd
  · rw [S.ok.globals]; exact S.gok.g.keeps (base_stays S.ok r)
  · exact ⟨r, .refl _ _, .refl _, .int _ _, trivial⟩


theorem SE_op2 {l r : Expr} {e : Expr} {F1 F2 : EF} {op : PyData → PyData → Option (PyData × Bool)} {t : Value → Value → Sem Value} (h1 : SE G sc vars (n + 1) l F1) (h2 : SE G sc vars (n + 1) r F2)
    (he : ∀ (env : Env) (A : Around) (E : Value → Shared → Prop) (s : Shared) (Q : Value → Shared → Prop), wpAny G.M A (eval l env) (fun a s₁ => wpAny G.M A (eval r env) (fun b s₂ => wpAny G.M A (t a b) Q E s₂) E s₁) E s → wpAny G.M A (eval e env) Q E s)
    (ho : ∀ (A : Around) (s : Shared) (B : Addr → Prop) (a b : Value) (x y z : PyData) (f : Bool), A.units + 20 < cLine → (∀ b, B b → ∃ o, s.heap.get? b = some o) → RdV G.w s.heap B a x → RdV G.w s.heap B b y → op x y = some (z, f) → PO G A s B (t a b) z f) :
    SE G sc vars (n + 1) e (eOp2 op F1 F2) := by
  intro c A st vs s hsc hv S r0 ns
  obtain ⟨o, eo⟩ : ∃ o, eOp2 op F1 F2 st = o := ⟨_, rfl⟩
  rw [eo] at ns ⊢
  refine he _ _ _ _ _ ?_
  refine h1.use hsc hv S r0 eo ns fun a st1 v1 s1 ho1 q1 q2 q3 q4 q5 => ?_
  refine h2.use hsc hv S q1 ho1 ns fun b st2 v2 s2 ho2 p1 p2 p3 p4 p5 => ?_
  cases ea : a.data st2 with
  | none => rw [ea] at ho2; exact absurd ho2.symm ns
  | some xa =>
    cases eb : b.data st2 with
    | none => rw [ea, eb] at ho2; exact absurd ho2.symm ns
    | some xb =>
      rw [ea, eb] at ho2
      simp only [Option.bind_some] at ho2
      cases ez : op xa xb with
      | none => rw [ez] at ho2; exact absurd ho2.symm ns
      | some zf =>
        obtain ⟨z, f⟩ := zf
        rw [ez] at ho2
        exact finE ho2 S p1 (q2.trans p2) (p3.trans q3) (ho _ _ _ _ _ _ _ _ _ (room20 S) (banIn S.ok p1) ((q4.move p2 p3).readV p1 ea) (p4.readV p1 eb) ez)

theorem SE_bin {l r : Expr} {op : Operator} {p : Pos} {F1 F2 : EF} (h1 : SE G sc vars (n + 1) l F1) (h2 : SE G sc vars (n + 1) r F2) : SE G sc vars (n + 1) (.BinOp l op r p) (eOp2 (binD op) F1 F2) :=
  SE_op2 h1 h2 (fun _ _ _ _ _ h => wpAny_BinOp h) fun _ _ _ _ _ _ _ _ _ _ hB ra rb e => binD_sound hB ra rb e
theorem SE_cmp {l r : Expr} {op : CmpOp} {p : Pos} {F1 F2 : EF} (h1 : SE G sc vars (n + 1) l F1) (h2 : SE G sc vars (n + 1) r F2) (hm : behindInMarks op r = false) :
    SE G sc vars (n + 1) (.Compare l [op] [r] p) (eOp2 (fun x y => (cmpD op x y).map fun b => (.bool b, false)) F1 F2) :=
  SE_op2 h1 h2 (fun _ _ _ _ _ h => wpAny_Compare1 h hm) fun _ _ _ _ _ _ _ _ _ hu hB ra rb e => by
    obtain ⟨b, e1, e2⟩ := Option.map_eq_some_iff.mp e
    cases e2
    exact cmpD_sound hu ra rb e1

theorem SE_op1 {l : Expr} {e : Expr} {F1 : EF} {op : PyData → Option (PyData × Bool)} {t : Value → Sem Value} (h1 : SE G sc vars (n + 1) l F1)
    (he : ∀ (env : Env) (A : Around) (E : Value → Shared → Prop) (s : Shared) (Q : Value → Shared → Prop), wpAny G.M A (eval l env) (fun a s₁ => wpAny G.M A (t a) Q E s₁) E s → wpAny G.M A (eval e env) Q E s)
    (ho : ∀ (A : Around) (s : Shared) (B : Addr → Prop) (a : Value) (x z : PyData) (f : Bool), A.units + 20 < cLine → (∀ b, B b → ∃ o, s.heap.get? b = some o) → RdV G.w s.heap B a x → op x = some (z, f) → PO G A s B (t a) z f) :
    SE G sc vars (n + 1) e (eOp1 op F1) := by
  intro c A st vs s hsc hv S r0 ns
  obtain ⟨o, eo⟩ : ∃ o, eOp1 op F1 st = o := ⟨_, rfl⟩
  rw [eo] at ns ⊢
  refine he _ _ _ _ _ ?_
  refine h1.use hsc hv S r0 eo ns fun a st1 v1 s1 ho1 q1 q2 q3 q4 q5 => ?_
  cases ea : a.data st1 with
  | none => rw [ea] at ho1; exact absurd ho1.symm ns
  | some xa =>
    rw [ea] at ho1
    simp only [Option.bind_some] at ho1
    cases ez : op xa with
    | none => rw [ez] at ho1; exact absurd ho1.symm ns
    | some zf =>
      obtain ⟨z, f⟩ := zf
      rw [ez] at ho1
      exact finE ho1 S q1 q2 q3 (ho _ _ _ _ _ _ _ (room20 S) (banIn S.ok q1) (q4.readV q1 ea) ez)

theorem eval_UnaryOp' {env : Env} {op : UnaryOp} {x : Expr} {p : Pos} {M : Model} {A : Around} {E : Value → Shared → Prop} {s : Shared} {Q : Value → Shared → Prop}
    (h : wpAny M A (eval x env) (fun v s₁ => wpAny M A (unaryOp op v) Q E s₁) E s) : wpAny M A (eval (.UnaryOp op x p) env) Q E s := by
  show wpAny M A (do let v ← eval x env; standAt p; holding [v] (unaryOp op v)) Q E s
  exact wpAny_bind (wpAny_mono h (fun v s₁ h₁ => wpAny_bind (wpAny_standAt (wpAny_holding h₁))) fun _ _ e => e)
theorem SE_neg {x : Expr} {p : Pos} {F : EF} (h : SE G sc vars (n + 1) x F) : SE G sc vars (n + 1) (.UnaryOp .USub x p) (eOp1 negD F) :=
  SE_op1 h (fun _ _ _ _ _ h => eval_UnaryOp' h) fun A s B a x z f _ _ r e => by
    cases x <;> simp [negD] at e
    obtain ⟨rfl, rfl⟩ := e
    obtain ⟨t, rfl⟩ := r.int_inv
    exact .int fun E Q h => P.neg_int (h _ _)
theorem SE_not {x : Expr} {p : Pos} {F : EF} (h : SE G sc vars (n + 1) x F) : SE G sc vars (n + 1) (.UnaryOp .Not x p) (eOp1 notD F) :=
  SE_op1 h (fun _ _ _ _ _ h => eval_UnaryOp' h) fun A s B a x z f _ _ r e => by
    cases x <;> simp [notD] at e
    obtain ⟨rfl, rfl⟩ := e
    have := r.bool_inv
    subst this
    exact .bool fun E Q h => not_of (wpAny_truthy_bool (h s.toks))

theorem truth_sound {M : Model} {E : Value → Shared → Prop} {B : Addr → Prop} {b : Bool} {Q : Bool → Shared → Prop} (r : RdV G.w s.heap B v x) (e : truthD x = some b) (h : Q b s) : wpAny M A (truthy v) Q E s := by
  cases x <;> simp [truthD] at e
  subst e
  have := r.bool_inv
  subst this
  exact wpAny_truthy_bool h
end

section
variable {G : GC} {sc : Scope} {vars : List Str} {n : Nat}

theorem SB_of {e : Expr} {F : EF} (h : SE G sc vars (n + 1) e F) (he : ∀ (env : Env) (w : Sem Value), isTrue e env w = (do let v ← w; standAt e.pos; holding [v] (truthy v))) : SB G sc vars (n + 1) e (tOf F) := by
  intro c A st vs s hsc hv S r ns
  obtain ⟨o, eo⟩ : ∃ o, tOf F st = o := ⟨_, rfl⟩
  rw [eo] at ns ⊢
  rw [he]
  refine wpAny_bind ?_
  refine h.use hsc hv S r eo ns fun a st1 v1 s1 ho1 q1 q2 q3 q4 q5 => ?_
  refine wpAny_bind (wpAny_standAt (wpAny_holding ?_))
  cases ea : a.data st1 with
  | none => rw [ea] at ho1; exact absurd ho1.symm ns
  | some xa =>
    rw [ea] at ho1
    simp only [Option.bind_some] at ho1
    cases ez : truthD xa with
    | none => rw [ez] at ho1; exact absurd ho1.symm ns
    | some b =>
      rw [ez] at ho1
      exact truth_sound (q4.readV q1 ea) ez (finB ho1 S q1 q2 q3 (KeepAll.refl _) ⟨rfl, rfl, rfl⟩)

theorem SB_cmp {l r : Expr} {op : CmpOp} {p : Pos} {F1 F2 : EF} (h1 : SE G sc vars (n + 1) l F1) (h2 : SE G sc vars (n + 1) r F2) (hm : behindInMarks op r = false) : SB G sc vars (n + 1) (.Compare l [op] [r] p) (tst2 (cmpD op) F1 F2) := by
  intro c A st vs s hsc hv S r0 ns
  obtain ⟨o, eo⟩ : ∃ o, tst2 (cmpD op) F1 F2 st = o := ⟨_, rfl⟩
  rw [eo] at ns ⊢
  refine wpAny_isTrue_Compare1 ?_ hm
  refine h1.use hsc hv S r0 eo ns fun a st1 v1 s1 ho1 q1 q2 q3 q4 q5 => ?_
  refine h2.use hsc hv S q1 ho1 ns fun b st2 v2 s2 ho2 p1 p2 p3 p4 p5 => ?_
  cases ea : a.data st2 with
  | none => rw [ea] at ho2; exact absurd ho2.symm ns
  | some xa =>
    cases eb : b.data st2 with
    | none => rw [ea, eb] at ho2; exact absurd ho2.symm ns
    | some xb =>
      rw [ea, eb] at ho2
      simp only [Option.bind_some] at ho2
      cases ez : cmpD op xa xb with
      | none => rw [ez] at ho2; exact absurd ho2.symm ns
      | some b =>
        rw [ez] at ho2
        refine wpAny_mono (cmpD_sound (room20 S) ((q4.move p2 p3).readV p1 ea) (p4.readV p1 eb) ez _) (fun v s3 q => ?_) fun _ _ e => e
        obtain ⟨k1, k2, k3, _⟩ := q
        cases k3
        exact wpAny_truthy_bool (finB ho2 S p1 (q2.trans p2) (p3.trans q3) k1 k2)

theorem QE.trans {c : FC} {st st1 : St} {vs : Nat → Value} {s s1 s2 : Shared} {o : Out AV} {v : Value} (z : QE G c st1 vs s1 o v s2) (k : KeepBut c.τ s.heap s1.heap) (h : Shares st1.ρ st.ρ) (r : SR G c st1 vs s1) : QE G c st vs s o v s2 := by
  cases o with
  | ok av st2 =>
    obtain ⟨k1, k2, k3, k4, k5⟩ := z
    refine ⟨k1, k.trans k2, k3.trans h, k4, ?_⟩
    cases av with
    | dat x f =>
      cases f with
      | false => trivial
      | true => obtain ⟨a, e1, e2⟩ := k5; exact ⟨a, e1, fresh_back k r e2⟩
    | _ => trivial
  | raise => exact z
  | stuck => exact z
theorem QB.trans {c : FC} {st st1 : St} {vs : Nat → Value} {s s1 s2 : Shared} {o : Out Bool} {v : Bool} (z : QB G c st1 vs s1 o v s2) (k : KeepBut c.τ s.heap s1.heap) (h : Shares st1.ρ st.ρ) : QB G c st vs s o v s2 := by
  cases o with
  | ok av st2 =>
    obtain ⟨k1, k2, k3, k4⟩ := z
    exact ⟨k1, k.trans k2, k3.trans h, k4⟩
  | raise => exact z
  | stuck => exact z

theorem SB_not {x : Expr} {p : Pos} {F : BF} (h : SB G sc vars n x F) : SB G sc vars n (.UnaryOp .Not x p) (tNot F) := by
  intro c A st vs s hsc hv S r ns
  obtain ⟨o, eo⟩ : ∃ o, tNot F st = o := ⟨_, rfl⟩
  rw [eo] at ns ⊢
  show wpAny _ _ (do return !(← isTrue x c.env (eval x c.env))) _ _ _
  refine wpAny_bind ?_
  refine h.use hsc hv S r eo ns fun b st1 s1 ho q1 q2 q3 => wpAny_pure ?_
  rw [← ho]
  exact ⟨q1, q2, q3, rfl⟩

inductive SBs (G : GC) (sc : Scope) (vars : List Str) (n : Nat) : List Expr → List BF → Prop
  | nil : SBs G sc vars n [] []
  | cons {e F es Fs} : SB G sc vars n e F → SBs G sc vars n es Fs → SBs G sc vars n (e :: es) (F :: Fs)

theorem allTrue_and : ∀ {es : List Expr} {Fs : List BF}, SBs G sc vars n es Fs → ∀ (c : FC) (A : Around) (st : St) (vs : Nat → Value) (s : Shared) (o : Out Bool), c.env.scope = sc → c.vars = vars → Surr G c n A → SR G c st vs s → tAnd Fs st = o → o ≠ .stuck →
    wpAny G.M A (allTrue .And es c.env) (QB G c st vs s o) (EE G c o) s := by
  intro es Fs H
  induction H with
  | nil => intro c A st vs s o _ _ _ r eo _; subst eo; exact wpAny_pure ⟨r, .refl _ _, .refl _, rfl⟩
  | @cons x _ rest _ h hs ih =>
    intro c A st vs s o hsc hv S r eo ns
    show wpAny _ _ (do match (BoolOp.And : BoolOp), ← isTrue x c.env (eval x c.env) with | .And, false => pure false | .Or, true => pure true | _, _ => allTrue .And rest c.env) _ _ _
    refine wpAny_bind ?_
    refine h.use hsc hv S r eo ns fun b st1 s1 ho q1 q2 q3 => ?_
    cases b with
    | false => subst ho; exact wpAny_pure ⟨q1, q2, q3, rfl⟩
    | true => exact wpAny_mono (ih c A st1 vs s1 o hsc hv S q1 ho ns) (fun b s2 q => q.trans q2 q3) fun _ _ e => e
theorem allTrue_or : ∀ {es : List Expr} {Fs : List BF}, SBs G sc vars n es Fs → ∀ (c : FC) (A : Around) (st : St) (vs : Nat → Value) (s : Shared) (o : Out Bool), c.env.scope = sc → c.vars = vars → Surr G c n A → SR G c st vs s → tOr Fs st = o → o ≠ .stuck →
    wpAny G.M A (allTrue .Or es c.env) (QB G c st vs s o) (EE G c o) s := by
  intro es Fs H
  induction H with
  | nil => intro c A st vs s o _ _ _ r eo _; subst eo; exact wpAny_pure ⟨r, .refl _ _, .refl _, rfl⟩
  | @cons x _ rest _ h hs ih =>
    intro c A st vs s o hsc hv S r eo ns
    show wpAny _ _ (do match (BoolOp.Or : BoolOp), ← isTrue x c.env (eval x c.env) with | .And, false => pure false | .Or, true => pure true | _, _ => allTrue .Or rest c.env) _ _ _
    refine wpAny_bind ?_
    refine h.use hsc hv S r eo ns fun b st1 s1 ho q1 q2 q3 => ?_
    cases b with
    | true => subst ho; exact wpAny_pure ⟨q1, q2, q3, rfl⟩
    | false => exact wpAny_mono (ih c A st1 vs s1 o hsc hv S q1 ho ns) (fun b s2 q => q.trans q2 q3) fun _ _ e => e
theorem SB_and {es : List Expr} {p : Pos} {Fs : List BF} (h : SBs G sc vars n es Fs) : SB G sc vars n (.BoolOp .And es p) (tAnd Fs) := fun c A st vs s hsc hv S r ns => allTrue_and h c A st vs s _ hsc hv S r rfl ns
theorem SB_or {es : List Expr} {p : Pos} {Fs : List BF} (h : SBs G sc vars n es Fs) : SB G sc vars n (.BoolOp .Or es p) (tOr Fs) := fun c A st vs s hsc hv S r ns => allTrue_or h c A st vs s _ hsc hv S r rfl ns

theorem SE_if {t a b : Expr} {p : Pos} {T : BF} {F1 F2 : EF} (ht : SB G sc vars n t T) (h1 : SE G sc vars n a F1) (h2 : SE G sc vars n b F2) : SE G sc vars n (.IfExp t a b p) (eIf T F1 F2) := by
  intro c A st vs s hsc hv S r ns
  obtain ⟨o, eo⟩ : ∃ o, eIf T F1 F2 st = o := ⟨_, rfl⟩
  rw [eo] at ns ⊢
  show wpAny _ _ (do if ← isTrue t c.env (eval t c.env) then eval a c.env else eval b c.env) _ _ _
  refine wpAny_bind ?_
  refine ht.use hsc hv S r eo ns fun bb st1 s1 ho q1 q2 q3 => ?_
  have fin : ∀ {e : Expr} {F : EF}, SE G sc vars n e F → F st1 = o → wpAny G.M A (eval e c.env) (QE G c st vs s o) (EE G c o) s1 := fun {e F} h ho => by
    have z := h c A st1 vs s1 hsc hv S q1 (by rw [ho]; exact ns)
    rw [ho] at z
    exact wpAny_mono z (fun v s2 q => q.trans q2 q3 q1) fun _ _ e => e
  cases bb with
  | true => rw [if_pos rfl]; exact fin h1 ho
  | false => rw [if_neg (by decide)]; exact fin h2 ho

inductive SEs (G : GC) (sc : Scope) (vars : List Str) (n : Nat) : List Expr → List EF → Prop
  | nil : SEs G sc vars n [] []
  | cons {e F es Fs} : SE G sc vars n e F → SEs G sc vars n es Fs → SEs G sc vars n (e :: es) (F :: Fs)

theorem boolOp_sound {p : Pos} {op : BoolOp} : ∀ {es : List Expr} {Fs : List EF}, SEs G sc vars n es Fs → ∀ (c : FC) (A : Around) (st : St) (vs : Nat → Value) (s : Shared) (o : Out AV), c.env.scope = sc → c.vars = vars → Surr G c n A → SR G c st vs s → eBool (op == .And) Fs st = o → o ≠ .stuck →
    wpAny G.M A (boolOp p op (evalEach es c.env)) (QE G c st vs s o) (EE G c o) s := by
  intro es Fs H
  induction H with
  | nil => intro c A st vs s o _ _ _ r eo ns; exact absurd eo.symm ns
  | @cons x _ _ _ h h2 ih =>
    intro c A st vs s o hsc hv S r eo ns
    cases h2 with | nil => subst eo; exact h c A st vs s hsc hv S r ns | @cons y _ rest _ h2 hs => ?_
    show wpAny _ _ (do
      let v ← eval x c.env
      standAt p
      let t ← holding [v] (truthy v)
      match op, t with
      | .And, false | .Or, true => pure v
      | _, _ => boolOp p op (evalEach (y :: rest) c.env)) _ _ _
    refine wpAny_bind ?_
    refine h.use hsc hv S r eo ns fun a st1 v1 s1 ho q1 q2 q3 q4 q5 => ?_
    refine wpAny_bind (wpAny_standAt (wpAny_bind (wpAny_holding ?_)))
    cases eb : (a.data st1).bind truthD with
    | none => rw [eb] at ho; exact absurd ho.symm ns
    | some b =>
      rw [eb] at ho
      simp only at ho
      cases ea : a.data st1 with
      | none => rw [ea] at eb; cases eb
      | some xa =>
        rw [ea] at eb
        refine truth_sound (q4.readV q1 ea) eb ?_
        have stop : Out.ok a st1 = o → wpAny G.M A (pure v1) (QE G c st vs s o) (EE G c o) s1 := fun e => by
          refine hide fun b_ hb_ => ?_
          subst e
          refine hb_ ?_
          exact wpAny_pure ⟨q1, q2, q3, q4, q5⟩
        have on : eBool (op == .And) (_ :: _) st1 = o → wpAny G.M A (boolOp p op (evalEach (y :: rest) c.env)) (QE G c st vs s o) (EE G c o) s1 := fun e =>
          wpAny_mono (ih c A st1 vs s1 o hsc hv S q1 e ns) (fun b s2 q => q.trans q2 q3 q1) fun _ _ e => e
        cases op <;> cases b <;> first | exact stop ho | exact on ho
theorem SE_boolop {op : BoolOp} {es : List Expr} {p : Pos} {Fs : List EF} (h : SEs G sc vars n es Fs) : SE G sc vars n (.BoolOp op es p) (eBool (op == .And) Fs) := fun c A st vs s hsc hv S r ns => boolOp_sound h c A st vs s _ hsc hv S r rfl ns
end
end Mine
namespace Mine
open PySem PySem.W PySem.Calls PyProof.Rows

noncomputable def evs : List EF → St → Out (List AV)
  | [], st => .ok [] st
  | F :: r, st => (F st).bind fun a st => (evs r st).bind fun as st => .ok (a :: as) st
noncomputable def shareAll : List AV → St → Option (List PyData × St)
  | [], st => some ([], st)
  | a :: r, st => (a.share st).bind fun p => (shareAll r p.2).bind fun q => some (p.1 :: q.1, q.2)
noncomputable def AV.arg (av : AV) (st : St) : Option (Arg × St) := match av with
  | .tape => some (.tape, st)
  | av => (av.share st).map fun p => (.sh p.1, p.2)
noncomputable def argAll : List AV → St → Option (List Arg × St)
  | [], st => some ([], st)
  | a :: r, st => (a.arg st).bind fun p => (argAll r p.2).bind fun q => some (p.1 :: q.1, q.2)
noncomputable def Ret.out (r : Ret) (st : St) : Out AV := match r with
  | .ok x f ts => .ok (.dat x f) ⟨st.ρ, ts⟩
  | .raise => .raise
  | .stuck => .stuck
noncomputable def eCall (Φ : Fn) (Fs : List EF) : EF := fun st => (evs Fs st).bind fun avs st => match argAll avs st with
  | some (args, st) => (Φ args st.ts).out st
  | none => .stuck
noncomputable def eList (Fs : List EF) : EF := fun st => (evs Fs st).bind fun avs st => match shareAll avs st with
  | some (ds, st) => if ds.length ≤ 10000 then .ok (.dat (.list ds) true) st else .stuck
  | none => .stuck
noncomputable def eTuple (Fs : List EF) : EF := fun st => (evs Fs st).bind fun avs st => match shareAll avs st with
  | some (ds, st) => if ds.length ≤ 10000 then .ok (.dat (.tuple ds) false) st else .stuck
  | none => .stuck

inductive AllVR (w : World) (c : FC) (ρ : List Slot) (vs : Nat → Value) (h : Heap) : List Value → List AV → Prop
  | nil : AllVR w c ρ vs h [] []
  | cons {v av vls avs} : VR w c ρ vs h v av → AllVR w c ρ vs h vls avs → AllVR w c ρ vs h (v :: vls) (av :: avs)

inductive SAs (G : GC) (sc : Scope) (vars : List Str) (n : Nat) : List Expr → List EF → Prop
  | nil : SAs G sc vars n [] []
  | cons {e F es Fs} : SE G sc vars n e F → (∀ env rest, starEach (e :: rest) env = (false, eval e env) :: starEach rest env) → SAs G sc vars n es Fs → SAs G sc vars n (e :: es) (F :: Fs)

section
variable {G : GC} {c : FC} {st st' : St} {vs : Nat → Value} {s s' : Shared} {v : Value} {av : AV} {x : PyData} {sc : Scope} {vars : List Str} {n : Nat} {A : Around}

theorem AllVR.move {ρ ρ' : List Slot} {h h' : Heap} (k : KeepBut c.τ h h') (z : Shares ρ' ρ) : ∀ {vls : List Value} {avs : List AV}, AllVR G.w c ρ vs h vls avs → AllVR G.w c ρ' vs h' vls avs := by
  intro vls avs h
  induction h with
  | nil => exact .nil
  | cons a _ ih => exact .cons (a.move k z) ih

theorem spliced_sound {p : Pos} : ∀ {es : List Expr} {Fs : List EF}, SAs G sc vars n es Fs → ∀ {c : FC} {A : Around} {st : St} {vs : Nat → Value} {s : Shared}, c.env.scope = sc → c.vars = vars → Surr G c n A → SR G c st vs s →
    ∀ {β : Type} {k : List AV → St → Out β} {o : Out β}, (evs Fs st).bind k = o → o ≠ .stuck → ∀ {K : List Value → Shared → Prop},
    (∀ avs st1 vls s1, k avs st1 = o → SR G c st1 vs s1 → KeepBut c.τ s.heap s1.heap → Shares st1.ρ st.ρ → AllVR G.w c st1.ρ vs s1.heap vls avs → K vls s1) →
    wpAny G.M A (spliced (backTo p (starEach es c.env))) K (EE G c o) s := by
  intro es Fs H
  induction H with
  | nil => intro c A st vs s hsc hv S r β k o ho ns K next; exact spliced_nil (next [] st [] s ho r (.refl _ _) (.refl _) .nil)
  | @cons e F es Fs h hs t ih =>
    intro c A st vs s hsc hv S r β k o ho ns K next
    rw [hs]
    show wpAny _ _ (spliced ((false, eval e c.env) :: backTo p (starEach es c.env))) _ _ _
    refine spliced_cons ?_
    have ho' : (F st).bind (fun a st => ((evs Fs st).bind fun as st => .ok (a :: as) st).bind k) = o := by
      rw [← ho]
      simp only [evs]
      cases F st with
      | ok a st1 => rfl
      | raise => rfl
      | stuck => rfl
    refine h.use hsc hv S r ho' ns fun a st1 v1 s1 ho1 q1 q2 q3 q4 q5 => ?_
    have ho2 : (evs Fs st1).bind (fun as st => k (a :: as) st) = o := by
      rw [← ho1]
      cases evs Fs st1 with
      | ok a st1 => rfl
      | raise => rfl
      | stuck => rfl
    exact ih hsc hv S q1 ho2 ns fun avs st2 vls s2 e2 p1 p2 p3 p4 => next (a :: avs) st2 (v1 :: vls) s2 e2 p1 (q2.trans p2) (p3.trans q3) (.cons (q4.move p2 p3) p4)

theorem shareAll_sound (ok : c.Ok G) : ∀ {avs : List AV} {vls : List Value} {st st' : St} {ds : List PyData}, SR G c st vs s → AllVR G.w c st.ρ vs s.heap vls avs → shareAll avs st = some (ds, st') →
    SR G c st' vs s ∧ Shares st'.ρ st.ρ ∧ RdAll G.w s.heap (c.Ban st'.ρ vs) vls ds ∧ st'.ts = st.ts := by
  intro avs
  induction avs with
  | nil =>
    intro vls st st' ds r H e
    refine hide fun b_ hb_ => ?_
    cases H
    simp only [shareAll, Option.some.injEq, Prod.mk.injEq] at e
    obtain ⟨rfl, rfl⟩ := e
    refine hb_ ?_
    exact ⟨r, .refl _, .nil, rfl⟩
  | cons a avs ih =>
    intro vls st st' ds r H e
    cases H with | cons h t => ?_
    simp only [shareAll] at e
    refine hide fun b_ hb_ => ?_
    obtain ⟨p, e1, e2⟩ := Option.bind_eq_some_iff.mp e
    obtain ⟨q, e3, e4⟩ := Option.bind_eq_some_iff.mp e2
    simp only [Option.some.injEq, Prod.mk.injEq] at e4
    obtain ⟨rfl, rfl⟩ := e4
    obtain ⟨r1, s1, d1, t1⟩ := share_sound ok r h e1
    obtain ⟨r2, s2, d2, t2⟩ := ih r1 (t.move (KeepBut.refl _ _) s1) e3
    refine hb_ ?_
    refine ⟨r2, s2.trans s1, .cons (d1.mono fun b o e n => ⟨e, fun q => n (s2.ban b q)⟩) d2, t2.trans t1⟩

theorem argAll_sound (ok : c.Ok G) : ∀ {avs : List AV} {vls : List Value} {st st' : St} {ds : List Arg}, SR G c st vs s → AllVR G.w c st.ρ vs s.heap vls avs → argAll avs st = some (ds, st') →
    SR G c st' vs s ∧ Shares st'.ρ st.ρ ∧ ArgsR G.w s.heap (c.Ban st'.ρ vs) c.τ vls ds ∧ st'.ts = st.ts := by
  intro avs
  induction avs with
  | nil =>
    intro vls st st' ds r H e
    refine hide fun b_ hb_ => ?_
    cases H
    simp only [argAll, Option.some.injEq, Prod.mk.injEq] at e
    obtain ⟨rfl, rfl⟩ := e
    refine hb_ ?_
    exact ⟨r, .refl _, .nil, rfl⟩
  | cons a avs ih =>
    intro vls st st' ds r H e
    cases H with | @cons v0 _ _ _ h t => ?_
    simp only [argAll] at e
    refine hide fun b_ hb_ => ?_
    obtain ⟨p, e1, e2⟩ := Option.bind_eq_some_iff.mp e
    obtain ⟨q, e3, e4⟩ := Option.bind_eq_some_iff.mp e2
    simp only [Option.some.injEq, Prod.mk.injEq] at e4
    obtain ⟨rfl, rfl⟩ := e4
    have one : SR G c p.2 vs s ∧ Shares p.2.ρ st.ρ ∧ (∀ ρ' , Shares ρ' p.2.ρ → ArgR G.w s.heap (c.Ban ρ' vs) c.τ v0 p.1) ∧ p.2.ts = st.ts := by
      have go : (a.share st).map (fun p => (Arg.sh p.1, p.2)) = some p → SR G c p.2 vs s ∧ Shares p.2.ρ st.ρ ∧ (∀ ρ' , Shares ρ' p.2.ρ → ArgR G.w s.heap (c.Ban ρ' vs) c.τ v0 p.1) ∧ p.2.ts = st.ts := fun e1 => by
        refine hide fun b_ hb_ => ?_
        obtain ⟨z, ez, e5⟩ := Option.map_eq_some_iff.mp e1
        subst e5
        obtain ⟨r1, s1, d1, t1⟩ := share_sound ok r h ez
        refine hb_ ?_
        exact ⟨r1, s1, fun ρ' hh => .sh (d1.mono fun b o e n => ⟨e, fun q => n (hh.ban b q)⟩), t1⟩
      cases a with
      | tape =>
        simp only [AV.arg, Option.some.injEq] at e1
        subst e1
        have : v0 = Value.ref c.τ := h
        rw [this]
        exact ⟨r, .refl _, fun _ _ => .tape, rfl⟩
      | dat y f => exact go e1
      | var i => exact go e1
    obtain ⟨r1, s1, d1, t1⟩ := one
    obtain ⟨r2, s2, d2, t2⟩ := ih r1 (t.move (KeepBut.refl _ _) s1) e3
    refine hb_ ?_
    exact ⟨r2, s2.trans s1, .cons (d1 _ s2) d2, t2.trans t1⟩

theorem Room.le {m n : Nat} {A : Around} (h : Room n A) (l : m ≤ n) : Room m A := ⟨Nat.lt_of_le_of_lt (Nat.add_le_add_left l _) h.1, Nat.lt_of_le_of_lt (Nat.add_le_add_left (Nat.mul_le_mul_left 20 l) _) h.2⟩

theorem evalArgs_any {M : Model} {E : Value → Shared → Prop} {f : Value} {p : Pos} {es : List Expr} {Fs : List EF} (h : SAs G sc vars n es Fs) {env : Env} {Q : Args → Shared → Prop}
    (hq : wpAny M A (spliced (backTo p (starEach es env))) (fun vls s' => Q ⟨vls, []⟩ s') E s) : wpAny M A (evalArgs f true (backTo p (starEach es env)) []) Q E s := by
  cases h with
  | nil =>
    unfold evalArgs
    show wpAny M A (spliced (backTo p (starEach [] env)) >>= _) Q E s
    refine wpAny_bind (wpAny_mono hq (fun vs s' h' => ?_) fun _ _ x => x)
    refine wpAny_holding ?_
    exact wpAny_bind (wpAny_pure (wpAny_bind (wpAny_pure (wpAny_pure h'))))
  | cons h1 hs t =>
    rw [hs] at hq ⊢
    exact evalArgs_plain hq
end
end Mine
namespace Mine
open PySem PySem.W PySem.Calls PyProof.Rows

noncomputable def lenD : PyData → Option Int
  | .list xs => if xs.length ≤ 100000 then some xs.length else none
  | .tuple xs => if xs.length ≤ 100000 then some xs.length else none
  | .str x => if x.length ≤ 100000 then some x.length else none
  | _ => none
inductive PyT where
  | int | bool | str | tuple
noncomputable def PyT.name : PyT → String
  | .int => "int"
  | .bool => "bool"
  | .str => "str"
  | .tuple => "tuple"
noncomputable def isiD (T : PyT) : PyData → Option Bool
  | .none => some false
  | .bool _ => some (match T with | .int => true | .bool => true | _ => false)
  | .int _ => some (match T with | .int => true | _ => false)
  | .str _ => some (match T with | .str => true | _ => false)
  | .tuple _ => some (match T with | .tuple => true | _ => false)
  | .list _ => some false
  | .dict _ => none
noncomputable def itemD (x k : PyData) : Option PyData := match x, k with
  | .list xs, .int i => if 0 ≤ i ∧ i < 100000 then xs[i.toNat]? else none
  | .tuple xs, .int i => if 0 ≤ i ∧ i < 100000 ∧ i < xs.length then xs[i.toNat]? else none
  | .str x, .int i => if 0 ≤ i ∧ i < 100000 ∧ i < x.length then (x.cps[i.toNat]?).map fun c => .str ⟨#[c]⟩ else none
  | .dict kvs, k => if keysOk k kvs then dget k kvs else none
  | _, _ => none
noncomputable def upD (b : Nat) : PyData → Option (PyData × Bool)
  | .list xs => if xs.length ≤ 100000 then some (.list (xs.take b), true) else none
  | _ => none
noncomputable def fromD (a : Nat) : PyData → Option (PyData × Bool)
  | .tuple xs => if 1 ≤ a ∧ a ≤ xs.length ∧ xs.length ≤ 100000 then some (.tuple (xs.drop a), false) else none
  | _ => none
noncomputable def tupD : PyData → Option (PyData × Bool)
  | .list xs => if xs.length ≤ 100000 then some (.tuple xs, false) else none
  | _ => none
noncomputable def lstD : PyData → Option (PyData × Bool)
  | .list xs => if xs.length ≤ 100000 then some (.list xs, true) else none
  | .tuple xs => if xs.length ≤ 100000 then some (.list xs, true) else none
  | _ => none
noncomputable def maxD : PyData → PyData → Option (PyData × Bool)
  | .int a, .int b => some (.int (if b > a then b else a), false)
  | _, _ => none
noncomputable def ePop : Nat → EF := fun i st => match st.ρ[i]? with
  | some .tape => match st.ts.reverse with
    | t :: r => if st.ts.length ≤ 100000 then .ok (.dat (.int t) false) ⟨st.ρ, r.reverse⟩ else .stuck
    | [] => .stuck
  | _ => .stuck

theorem seqIdx {i : Int} {n : Nat} (h0 : 0 ≤ i) (h1 : i < n) : seqIndex? i n = some i.toNat := by
  unfold seqIndex?
  simp only [show ¬ i < 0 by omega, if_false, h0, h1, decide_true, Bool.and_self, if_true]

section
variable {G : GC} {A : Around} {s : Shared} {B : Addr → Prop} {a b : Value} {x y z : PyData} {f : Bool}

theorem len_sound {i : Int} (r : RdV G.w s.heap B a x) (e : lenD x = some i) : PO G A s B (call (.builtin "len") [a]) (.int i) false := by
  cases x with
  | list xs =>
    simp only [lenD] at e
    split at e
    · rename_i h; cases e
      obtain ⟨p, vs, n, rfl, e, r⟩ := r.list_inv
      have l := r.length; simp only [Array.length_toList] at l
      refine .int fun E Q h => call_len_list ⟨_, e, rfl, _, rfl⟩ (by omega) ?_
      have := h (s.toks + 1) (s.toks + 1 + 1)
      rw [← l] at this
      exact this
    · cases e
  | tuple xs =>
    simp only [lenD] at e
    split at e
    · rename_i h; cases e
      obtain ⟨p, vs, n, rfl, e, r⟩ := r.tuple_inv
      have l := r.length; simp only [Array.length_toList] at l
      refine .int fun E Q h => P.len_tuple (n := n) e (by omega) ?_
      have := h (s.toks + 1) (s.toks + 1 + 1)
      rw [← l] at this
      exact this
    · cases e
  | str y =>
    simp only [lenD] at e
    split at e
    · rename_i h; cases e
      obtain ⟨t, rfl⟩ := r.str_inv
      exact .int fun E Q h => P.len_str (by omega) (h _ _)
    · cases e
  | _ => simp [lenD] at e

theorem isi_sound {T : PyT} {c : Bool} (r : RdV G.w s.heap B a x) (e : isiD T x = some c) : PO G A s B (call (.builtin "isinstance") [a, .type T.name]) (.bool c) false := by
  cases x with
  | none =>
    have := r.none_inv; subst this
    cases T <;> (simp only [isiD, Option.some.injEq] at e; subst e)
    · exact .bool fun E Q h => IsiPair.NoneType_int (h _)
    · exact .bool fun E Q h => IsiPair.NoneType_bool (h _)
    · exact .bool fun E Q h => IsiPair.NoneType_str (h _)
    · exact .bool fun E Q h => IsiPair.NoneType_tuple (h _)
  | bool c' =>
    have := r.bool_inv; subst this
    cases T <;> (simp only [isiD, Option.some.injEq] at e; subst e)
    · exact .bool fun E Q h => IsiPair.bool_int (h s.toks)
    · exact .bool fun E Q h => IsiPair.bool_bool (h s.toks)
    · exact .bool fun E Q h => IsiPair.bool_str (h _)
    · exact .bool fun E Q h => IsiPair.bool_tuple (h _)
  | int i =>
    obtain ⟨t, rfl⟩ := r.int_inv
    cases T <;> (simp only [isiD, Option.some.injEq] at e; subst e)
    · exact .bool fun E Q h => IsiPair.int_int (h s.toks)
    · exact .bool fun E Q h => IsiPair.int_bool (h _)
    · exact .bool fun E Q h => IsiPair.int_str (h _)
    · exact .bool fun E Q h => IsiPair.int_tuple (h _)
  | str i =>
    obtain ⟨t, rfl⟩ := r.str_inv
    cases T <;> (simp only [isiD, Option.some.injEq] at e; subst e)
    · exact .bool fun E Q h => IsiPair.str_int (h _)
    · exact .bool fun E Q h => IsiPair.str_bool (h _)
    · exact .bool fun E Q h => IsiPair.str_str (h s.toks)
    · exact .bool fun E Q h => IsiPair.str_tuple (h _)
  | tuple xs =>
    obtain ⟨p, vs, n, rfl, eh, _⟩ := r.tuple_inv
    cases T <;> (simp only [isiD, Option.some.injEq] at e; subst e)
    · exact .bool fun E Q h => IsiPair.tuple_int eh rfl (h _)
    · exact .bool fun E Q h => IsiPair.tuple_bool eh rfl (h _)
    · exact .bool fun E Q h => IsiPair.tuple_str eh rfl (h _)
    · exact .bool fun E Q h => IsiPair.tuple_tuple eh rfl (h s.toks)
  | list xs =>
    obtain ⟨p, vs, n, rfl, eh, _⟩ := r.list_inv
    cases T <;> (simp only [isiD, Option.some.injEq] at e; subst e)
    · exact .bool fun E Q h => IsiPair.list_int eh rfl (h _)
    · exact .bool fun E Q h => IsiPair.list_bool eh rfl (h _)
    · exact .bool fun E Q h => IsiPair.list_str eh rfl (h _)
    · exact .bool fun E Q h => IsiPair.list_tuple eh rfl (h _)
  | dict => simp [isiD] at e

theorem tup_sound (hB : ∀ b, B b → ∃ o, s.heap.get? b = some o) (r : RdV G.w s.heap B a x) (e : tupD x = some (z, f)) : PO G A s B (call (.type "tuple") [a]) z f := by
  cases x <;> simp [tupD] at e
  obtain ⟨l0, rfl, rfl⟩ := e
  obtain ⟨p, vs, n, rfl, eh, r⟩ := r.list_inv
  have l := r.length; simp only [Array.length_toList] at l
  intro E
  refine call_tuple_list (items := vs) ⟨_, eh, rfl, _, rfl⟩ (fun h' hk => ?_) (sizeLine_le (by omega))
  have k2 : KeepAll s.heap (h'.push (TObj vs 0)) := KeepAll.trans hk (KeepAll.push _ _)
  refine ⟨k2, ⟨rfl, rfl, rfl⟩, .tuple (Heap.get?_push_size _ rfl) (fun q => ?_) (r.keep k2), fun q => by cases q⟩
  obtain ⟨o, e⟩ := hB _ q
  exact absurd (Heap.lt_size (hk _ _ e)) (Nat.lt_irrefl _)

theorem lst_sound (hB : ∀ b, B b → ∃ o, s.heap.get? b = some o) (r : RdV G.w s.heap B a x) (e : lstD x = some (z, f)) : PO G A s B (call (.type "list") [a]) z f := by
  have go : ∀ {p : Addr} {vs : Array Value} {T : String} {o : Obj} {n : Nat} {xs : List PyData}, (T = "list" ∨ T = "tuple") → s.heap.get? p = some o → o.cls = .type T → o.data = .seq vs n → RdAll G.w s.heap B vs.toList xs → xs.length ≤ 100000 →
      PO G A s B (call (.type "list") [.ref p]) (.list xs) true := fun {p vs T o n xs} hT e1 e2 e3 r l0 => by
    have l := r.length; simp only [Array.length_toList] at l
    intro E
    refine call_list_seq p hT e1 e2 e3 (fun h' c' hk hn => ?_) (sizeLine_le (by omega))
    refine ⟨hk, ⟨rfl, rfl, rfl⟩, .list hn (newB hB) (r.keep hk), fun _ => ⟨_, rfl, size_none _⟩⟩
  cases x <;> simp [lstD] at e
  · obtain ⟨l0, rfl, rfl⟩ := e
    obtain ⟨p, vs, n, rfl, eh, r⟩ := r.list_inv
    exact go (.inl rfl) eh rfl rfl r l0
  · obtain ⟨l0, rfl, rfl⟩ := e
    obtain ⟨p, vs, n, rfl, eh, r⟩ := r.tuple_inv
    exact go (.inr rfl) eh rfl rfl r l0

theorem max_sound (hh : A.handled = none) (ra : RdV G.w s.heap B a x) (rb : RdV G.w s.heap B b y) (e : maxD x y = some (z, f)) : PO G A s B (call (.builtin "max") [a, b]) z f := by
  cases x <;> cases y <;> simp [maxD] at e
  obtain ⟨rfl, rfl⟩ := e
  obtain ⟨t, rfl⟩ := ra.int_inv
  obtain ⟨u, rfl⟩ := rb.int_inv
  intro E
  refine max_two_ints hh fun h' tk hk => ?_
  refine ⟨hk, ⟨rfl, rfl, rfl⟩, ?_, fun q => by cases q⟩
  split <;> exact .int _ _

theorem item_sound (hu : A.units + 20 < cLine) {value slice : Expr} (hs : ∀ o i, subscripted slice false o i = operate [o, i] (getItem o i)) (ra : RdV G.w s.heap B a x) (rb : RdV G.w s.heap B b y) (e : itemD x y = some z) :
    PO G A s B (subscriptTail value slice a b) z false := by
  have fin : ∀ {T id : String}, s.TypeIs a T → typeLookup (.type T) "__getitem__" = pure (some (.builtin id)) → PO G A s B (getItem a b) z false → PO G A s B (subscriptTail value slice a b) z false :=
    fun hT hl p E => tail_any hT hl (p E) (hs _ _)
  unfold itemD at e
  split at e
  · split at e
    · rename_i i h
      obtain ⟨p, vs, n, rfl, eh, r⟩ := ra.list_inv
      obtain ⟨t, rfl⟩ := rb.int_inv
      obtain ⟨v, hv, hr⟩ := r.get e
      exact fin ⟨_, eh, rfl⟩ slot_list_getitem.lookup (.old hr fun E Q hq => wpAny_getItem_list ⟨_, eh, rfl, _, rfl⟩ h.1 (by omega) (by rw [← Array.getElem?_toList]; exact hv) (hq s.toks))
    · cases e
  · split at e
    · rename_i i h
      obtain ⟨p, vs, n, rfl, eh, r⟩ := ra.tuple_inv
      obtain ⟨t, rfl⟩ := rb.int_inv
      obtain ⟨v, hv, hr⟩ := r.get e
      have l := r.length; simp only [Array.length_toList] at l
      have hk : seqIndex? i vs.size = some i.toNat := seqIdx h.1 (by omega)
      exact fin ⟨_, eh, rfl⟩ slot_tuple_getitem.lookup (.old hr fun E Q hq => P.getItem_tuple (n := n) eh (by omega) (by omega) hk (by rw [← Array.getElem?_toList]; exact hv) (hq s.toks))
    · cases e
  · split at e
    · rename_i xx i h
      obtain ⟨t, rfl⟩ := ra.str_inv
      obtain ⟨u, rfl⟩ := rb.int_inv
      obtain ⟨cc, hc, rfl⟩ := Option.map_eq_some_iff.mp e
      have hk : seqIndex? i xx.length = some i.toNat := seqIdx h.1 h.2.2
      refine fin (id := "str.__getitem__") rfl F.slot_str_getitem.lookup (.str fun E Q hq => P.getItem_str (by simp; omega) ?_ (hq _ _))
      rw [hk]; exact hc
    · cases e
  · split at e
    · rename_i h
      have p := getDict (A := A) (by omega) rb ra h e
      obtain ⟨d, es, n, rfl, eh, _⟩ := ra.dict_inv
      exact fin ⟨_, eh, rfl⟩ slot_dict_getitem.lookup p
    · cases e
  · cases e

theorem slice_up (hB : ∀ b, B b → ∃ o, s.heap.get? b = some o) {value slice : Expr} {sl : Addr} {k : Nat} {u : Tok} (hs : subscripted slice false a (.ref sl) = operate [.ref sl, a] (getItem a (.ref sl)))
    (hsl : s.heap.IsSliceOf sl .none (.int k u) .none) (ra : RdV G.w s.heap B a x) (e : upD k x = some (z, f)) : PO G A s B (subscriptTail value slice a (.ref sl)) z f := by
  cases x <;> simp [upD] at e
  obtain ⟨l0, rfl, rfl⟩ := e
  obtain ⟨p, vs, n, rfl, eh, r⟩ := ra.list_inv
  have l := r.length; simp only [Array.length_toList] at l
  have hp : (slicePick vs none (some (k : Int)) none).toList = vs.toList.take k := by
    by_cases q : k ≤ vs.size
    · rw [slicePick_upto vs k q]
    · have h1 := slicePick_upto vs vs.size (Nat.le_refl _)
      have hb : sliceBounds none (some (k : Int)) none vs.size = sliceBounds none (some (vs.size : Int)) none vs.size := by
        simp only [sliceBounds, Option.getD_none]
        rw [if_neg (by omega : ¬ (k : Int) < 0), if_neg (by omega : ¬ (vs.size : Int) < 0)]
        rw [show min (k : Int) (vs.size : Int) = vs.size by omega, show min (vs.size : Int) (vs.size : Int) = vs.size by omega]
        simp
      have h2 : slicePick vs none (some (k : Int)) none = slicePick vs none (some (vs.size : Int)) none := by
        unfold slicePick
        rw [hb]
      rw [h2, h1]
      simp only [List.take_of_length_le (show vs.toList.length ≤ k by simp; omega), List.take_of_length_le (show vs.toList.length ≤ vs.size by simp)]
  refine .list (vs := vs.toList.take k) hB (r.take k) fun E Q h => tail_any (T := "list") ⟨_, eh, rfl⟩ slot_list_getitem.lookup ?_ hs
  refine wpAny_getItem_list_slice (items := vs) (lo := none) (hi := some (k : Int)) (st := none) ⟨_, eh, rfl, _, rfl⟩ hsl (by constructor) (by constructor) (by constructor) (by simp) ?_ (sizeLine_le (by omega))
  have : slicePick vs none (some (k : Int)) none = (vs.toList.take k).toArray := by rw [← hp]
  rw [this]
  exact h s.toks

theorem slice_from (hB : ∀ b, B b → ∃ o, s.heap.get? b = some o) {value slice : Expr} {sl : Addr} {k : Nat} {u : Tok} (hs : subscripted slice false a (.ref sl) = operate [.ref sl, a] (getItem a (.ref sl)))
    (hsl : s.heap.IsSliceOf sl (.int k u) .none .none) (ra : RdV G.w s.heap B a x) (e : fromD k x = some (z, f)) : PO G A s B (subscriptTail value slice a (.ref sl)) z f := by
  cases x <;> simp [fromD] at e
  obtain ⟨⟨l1, l2, l0⟩, rfl, rfl⟩ := e
  obtain ⟨p, vs, n, rfl, eh, r⟩ := ra.tuple_inv
  have l := r.length; simp only [Array.length_toList] at l
  refine .tuple (vs := vs.toList.drop k) hB (r.drop k) fun E Q h => tail_any (T := "tuple") ⟨_, eh, rfl⟩ slot_tuple_getitem.lookup ?_ hs
  exact getItem_tuple_from (items := vs) ⟨_, eh, rfl, _, rfl⟩ hsl l1 (by omega) (h s.toks) (sizeLine_le (by omega))
end
end Mine
namespace Mine
open PySem PySem.W PySem.Calls PyProof.Rows

section
variable {G : GC} {c : FC} {st st' : St} {vs : Nat → Value} {s s' : Shared} {v : Value} {av : AV} {x : PyData} {sc : Scope} {vars : List Str} {n : Nat} {A : Around}


theorem SE_list {es : List Expr} {p : Pos} {Fs : List EF} (h : SAs G sc vars (n + 1) es Fs) : SE G sc vars (n + 1) (.List es p) (eList Fs) := by
  intro c A st vs s hsc hv S r ns
  obtain ⟨o, eo⟩ : ∃ o, eList Fs st = o := ⟨_, rfl⟩
  rw [eo] at ns ⊢
  refine List_ (spliced_sound h hsc hv S r eo ns fun avs st1 vls s1 ho q1 q2 q3 q4 => ?_)
  cases es : shareAll avs st1 with
  | none => rw [es] at ho; exact absurd ho.symm ns
  | some p =>
    obtain ⟨ds, st2⟩ := p
    rw [es] at ho
    simp only at ho
    split at ho
    · rename_i hl
      refine hide fun b_ hb_ => ?_
      obtain ⟨r1, s1', d1, t1⟩ := shareAll_sound S.ok q1 q4 es
      refine hb_ ?_
      have ll := d1.length
      refine finE ho S r1 q2 (s1'.trans q3) (.list (banIn S.ok r1) d1 fun E Q hq => ?_)
      exact wpAny_newObj_type (hq s1.toks) (by show vls.toArray.size ≤ sizeLine; rw [List.size_toArray]; exact sizeLine_le (by omega))
    · exact absurd ho.symm ns
theorem SE_tuple {es : List Expr} {k : Nat} {p : Pos} {Fs : List EF} (h : SAs G sc vars (n + 1) es Fs) : SE G sc vars (n + 1) (.Tuple es k p) (eTuple Fs) := by
  intro c A st vs s hsc hv S r ns
  obtain ⟨o, eo⟩ : ∃ o, eTuple Fs st = o := ⟨_, rfl⟩
  rw [eo] at ns ⊢
  refine Tuple_ (spliced_sound h hsc hv S r eo ns fun avs st1 vls s1 ho q1 q2 q3 q4 => ?_)
  cases es : shareAll avs st1 with
  | none => rw [es] at ho; exact absurd ho.symm ns
  | some p =>
    obtain ⟨ds, st2⟩ := p
    rw [es] at ho
    simp only at ho
    split at ho
    · rename_i hl
      refine hide fun b_ hb_ => ?_
      obtain ⟨r1, s1', d1, t1⟩ := shareAll_sound S.ok q1 q4 es
      refine hb_ ?_
      have ll := d1.length
      refine finE ho S r1 q2 (s1'.trans q3) (.tuple (banIn S.ok r1) d1 fun E Q hq => ?_)
      exact wpAny_newObj_type (hq s1.toks) (by show vls.toArray.size ≤ sizeLine; rw [List.size_toArray]; exact sizeLine_le (by omega))
    · exact absurd ho.symm ns

theorem load_builtin {nm : Str} {b : Value} {p : Pos} {Q : Value → Shared → Prop} {E : Value → Shared → Prop} (hsc : c.env.scope = sc) (S : Surr G c n A) (r : SR G c st vs s) (hg : G.mg nm = none) (hb : bootBuiltins nm = some b) (hn : nm ≠ "__name__")
    (hk : sc.names.lookup nm = some .globalImplicit) (hd : (nm == ("__debug__" : Str)) = false) (h : Q b s) : wpAny G.M A (eval (.Name nm p) c.env) Q E s := by
  refine Name_function_global S.ok.kind (by unfold Env.kindOf; rw [hsc]; exact hk) (loadGlobal_builtin (mg := G.mg) (mb := G.mb) ?_ hg ?_ ((S.gok.builtins nm hn).trans hb) h) hd
  · rw [S.ok.globals]; exact S.gok.g.keeps (base_stays S.ok r)
  · rw [S.ok.builtins]; exact S.gok.b.keeps (base_stays S.ok r)
theorem load_global {nm : Str} {b : Value} {p : Pos} {Q : Value → Shared → Prop} {E : Value → Shared → Prop} (hsc : c.env.scope = sc) (S : Surr G c n A) (r : SR G c st vs s) (hg : G.mg nm = some b)
    (hk : sc.names.lookup nm = some .globalImplicit) (hd : (nm == ("__debug__" : Str)) = false) (h : Q b s) : wpAny G.M A (eval (.Name nm p) c.env) Q E s := by
  refine Name_function_global S.ok.kind (by unfold Env.kindOf; rw [hsc]; exact hk) (loadGlobal_global (mg := G.mg) ?_ hg h) hd
  rw [S.ok.globals]; exact S.gok.g.keeps (base_stays S.ok r)

noncomputable def eFn1 (op : PyData → Option (PyData × Bool)) (F : EF) : EF := fun st => (evs [F] st).bind fun avs st => fin2 (match avs with | [a] => (a.data st).bind op | _ => none) st
noncomputable def eFn2 (op : PyData → PyData → Option (PyData × Bool)) (F1 F2 : EF) : EF := fun st => (evs [F1, F2] st).bind fun avs st => fin2 (match avs with | [a, b] => (a.data st).bind fun x => (b.data st).bind fun y => op x y | _ => none) st

theorem SE_fn1 {nm : Str} {b : Value} {e : Expr} {p p2 : Pos} {F : EF} {op : PyData → Option (PyData × Bool)} (h : SE G sc vars (n + 1) e F) (hs : ∀ env rest, starEach (e :: rest) env = (false, eval e env) :: starEach rest env)
    (hb : bootBuiltins nm = some b) (hg : G.mg nm = none) (hn : nm ≠ "__name__") (hk : sc.names.lookup nm = some .globalImplicit) (hd : (nm == ("__debug__" : Str)) = false)
    (hc : ∀ (A : Around) (E : Value → Shared → Prop) (s : Shared) (Q : Value → Shared → Prop) (pos : Pos) (args : List (Bool × Sem Value)), args.any (·.1) = false → wpAny G.M A (evalArgs b true args []) (fun a s₁ => wpAny G.M A (call b a.pos a.kw) Q E s₁) E s → wpAny G.M A (callWith pos b [] args []) Q E s)
    (ho : ∀ (A : Around) (s : Shared) (B : Addr → Prop) (a : Value) (x z : PyData) (f : Bool), A.units + 20 < cLine → (∀ b, B b → ∃ o, s.heap.get? b = some o) → RdV G.w s.heap B a x → op x = some (z, f) → PO G A s B (call b [a]) z f) :
    SE G sc vars (n + 1) (.Call (.Name nm p) [e] [] p2) (eFn1 op F) := by
  intro c A st vs s hsc hv S r ns
  obtain ⟨o, eo⟩ : ∃ o, eFn1 op F st = o := ⟨_, rfl⟩
  rw [eo] at ns ⊢
  have SA1 : SAs G sc vars (n + 1) [e] [F] := .cons h hs .nil
  refine Call_Name (trees := backTo p2 (starEach [e] c.env)) rfl (load_builtin hsc S r hg hb hn hk hd ?_)
  refine hc _ _ _ _ _ _ (by rw [hs]; rfl) ?_
  refine evalArgs_any SA1 (spliced_sound SA1 hsc hv S r eo ns fun avs st1 vls s1 ho1 q1 q2 q3 q4 => ?_)
  cases q4 with
  | nil => exact absurd ho1.symm ns
  | cons a1 t =>
    cases t with
    | cons _ _ => exact absurd ho1.symm ns
    | nil =>
      rename_i v1 av1
      simp only at ho1
      cases ea : av1.data st1 with
      | none => rw [ea] at ho1; exact absurd ho1.symm ns
      | some xa =>
        rw [ea] at ho1
        simp only [Option.bind_some] at ho1
        cases ez : op xa with
        | none => rw [ez] at ho1; exact absurd ho1.symm ns
        | some zf =>
          obtain ⟨z, f⟩ := zf
          rw [ez] at ho1
          exact finE ho1 S q1 q2 q3 (ho _ _ _ _ _ _ _ (room20 S) (banIn S.ok q1) (a1.readV q1 ea) ez)

theorem SE_fn2 {nm : Str} {b : Value} {e e2 : Expr} {p p2 : Pos} {F F2 : EF} {op : PyData → PyData → Option (PyData × Bool)} (h : SE G sc vars (n + 1) e F) (h2 : SE G sc vars (n + 1) e2 F2) (hs : ∀ env rest, starEach (e :: rest) env = (false, eval e env) :: starEach rest env)
    (hs2 : ∀ env rest, starEach (e2 :: rest) env = (false, eval e2 env) :: starEach rest env)
    (hb : bootBuiltins nm = some b) (hg : G.mg nm = none) (hn : nm ≠ "__name__") (hk : sc.names.lookup nm = some .globalImplicit) (hd : (nm == ("__debug__" : Str)) = false)
    (hc : ∀ (A : Around) (E : Value → Shared → Prop) (s : Shared) (Q : Value → Shared → Prop) (pos : Pos) (args : List (Bool × Sem Value)), args.any (·.1) = false → wpAny G.M A (evalArgs b true args []) (fun a s₁ => wpAny G.M A (call b a.pos a.kw) Q E s₁) E s → wpAny G.M A (callWith pos b [] args []) Q E s)
    (ho : ∀ (A : Around) (s : Shared) (B : Addr → Prop) (a a2 : Value) (x y z : PyData) (f : Bool), A.handled = none → A.units + 20 < cLine → (∀ b, B b → ∃ o, s.heap.get? b = some o) → RdV G.w s.heap B a x → RdV G.w s.heap B a2 y → op x y = some (z, f) → PO G A s B (call b [a, a2]) z f) :
    SE G sc vars (n + 1) (.Call (.Name nm p) [e, e2] [] p2) (eFn2 op F F2) := by
  intro c A st vs s hsc hv S r ns
  obtain ⟨o, eo⟩ : ∃ o, eFn2 op F F2 st = o := ⟨_, rfl⟩
  rw [eo] at ns ⊢
  have SA1 : SAs G sc vars (n + 1) [e, e2] [F, F2] := .cons h hs (.cons h2 hs2 .nil)
  refine Call_Name (trees := backTo p2 (starEach [e, e2] c.env)) rfl (load_builtin hsc S r hg hb hn hk hd ?_)
  refine hc _ _ _ _ _ _ (by rw [hs, hs2]; rfl) ?_
  refine evalArgs_any SA1 (spliced_sound SA1 hsc hv S r eo ns fun avs st1 vls s1 ho1 q1 q2 q3 q4 => ?_)
  cases q4 with
  | nil => exact absurd ho1.symm ns
  | cons a1 t =>
    cases t with
    | nil => exact absurd ho1.symm ns
    | cons a2 t =>
      cases t with
      | cons _ _ => exact absurd ho1.symm ns
      | nil =>
        rename_i v1 av1 v2 av2
        simp only at ho1
        cases ea : av1.data st1 with
        | none => rw [ea] at ho1; exact absurd ho1.symm ns
        | some xa =>
          cases eb : av2.data st1 with
          | none => rw [ea, eb] at ho1; exact absurd ho1.symm ns
          | some xb =>
            rw [ea, eb] at ho1
            simp only [Option.bind_some] at ho1
            cases ez : op xa xb with
            | none => rw [ez] at ho1; exact absurd ho1.symm ns
            | some zf =>
              obtain ⟨z, f⟩ := zf
              rw [ez] at ho1
              exact finE ho1 S q1 q2 q3 (ho _ _ _ _ _ _ _ _ _ S.hh (room20 S) (banIn S.ok q1) (a1.readV q1 ea) (a2.readV q1 eb) ez)

theorem cw_builtin {id : String} : ∀ (A : Around) (E : Value → Shared → Prop) (s : Shared) (Q : Value → Shared → Prop) (pos : Pos) (args : List (Bool × Sem Value)), args.any (·.1) = false → wpAny G.M A (evalArgs (.builtin id) true args []) (fun a s₁ => wpAny G.M A (call (.builtin id) a.pos a.kw) Q E s₁) E s → wpAny G.M A (callWith pos (.builtin id) [] args []) Q E s :=
  fun A E s Q pos args h1 h2 => callWith_builtin h1 h2
theorem cw_type {T : String} : ∀ (A : Around) (E : Value → Shared → Prop) (s : Shared) (Q : Value → Shared → Prop) (pos : Pos) (args : List (Bool × Sem Value)), args.any (·.1) = false → wpAny G.M A (evalArgs (.type T) true args []) (fun a s₁ => wpAny G.M A (call (.type T) a.pos a.kw) Q E s₁) E s → wpAny G.M A (callWith pos (.type T) [] args []) Q E s :=
  fun A E s Q pos args h1 h2 => PySem.callWith_type h1 h2

theorem SE_call {nm : Str} {fa : Addr} {Φ : Fn} {m : Nat} {es : List Expr} {p p2 : Pos} {Fs : List EF} (hf : FnSpec G m fa Φ) (hm : m ≤ n) (h : SAs G sc vars n es Fs) (hg : G.mg nm = some (.ref fa)) (hfo : ∃ o fd, G.H.get? fa = some o ∧ o.data = .func fd)
    (hk : sc.names.lookup nm = some .globalImplicit) (hd : (nm == ("__debug__" : Str)) = false) : SE G sc vars n (.Call (.Name nm p) es [] p2) (eCall Φ Fs) := by
  intro c A st vs s hsc hv S r ns
  obtain ⟨o, eo⟩ : ∃ o, eCall Φ Fs st = o := ⟨_, rfl⟩
  rw [eo] at ns ⊢
  obtain ⟨ob, fd, hob, hfd⟩ := hfo
  refine Call_Name (trees := backTo p2 (starEach es c.env)) rfl (load_global hsc S r hg hk hd ?_)
  refine callWith_function (o := ob) (fd := fd) (evalArgs_any h (spliced_sound h hsc hv S r eo ns fun avs st1 vls s1 ho1 q1 q2 q3 q4 => ?_))
  refine ⟨⟨base_stays S.ok q1 _ _ hob, hfd⟩, ?_⟩
  cases ea : argAll avs st1 with
  | none => rw [ea] at ho1; exact absurd ho1.symm ns
  | some pr =>
    obtain ⟨args, st2⟩ := pr
    rw [ea] at ho1
    simp only at ho1
    obtain ⟨r1, s1', d1, t1⟩ := argAll_sound S.ok q1 q4 ea
    have pre : CallPre G m A (c.fenv :: c.outer) c.τ (c.Ban st2.ρ vs) st2.ts s1 :=
      ⟨S.gok, S.room.le hm, S.hh, S.fr, base_stays S.ok r1, S.ok.τH, r1.tape, FC.Ban.tau, banIn S.ok r1, r1.frames⟩
    have nsΦ : Φ args st2.ts ≠ .stuck := fun q => by rw [q] at ho1; exact ns ho1.symm
    refine wpAny_mono (hf A _ _ _ args vls st2.ts s1 pre d1 nsΦ) (fun v s2 q => ?_) fun e s2 q => ?_
    · cases er : Φ args st2.ts with
      | ok xx fr ts =>
        rw [er] at q ho1
        obtain ⟨k1, k2, k3, k4, k5⟩ := q
        subst ho1
        refine ⟨r1.step S.ok k4 k1 k5, q2.trans k4, s1'.trans q3, k2, ?_⟩
        cases fr with
        | false => trivial
        | true => obtain ⟨a, e1, e2⟩ := k3 rfl; exact ⟨a, e1, fresh_back q2 q1 e2⟩
      | raise => rw [er] at q; cases q
      | stuck => rw [er] at q; cases q
    · obtain ⟨er, ea, a0, rfl, fl, up, re⟩ := q
      rw [er] at ho1
      refine ⟨ho1.symm, ea, rfl, ?_, ?_, ⟨re.1.trans r1.rest.1, re.2.1.trans r1.rest.2.1, re.2.2.trans r1.rest.2.2⟩, ?_⟩
      · obtain ⟨f1, f2, f3, f4⟩ := fl
        obtain ⟨Lf, hL⟩ := S.ok.fr
        exact ⟨f1, f2, f3, a0, Lf, hL, .inr (.inl f4)⟩
      · intro b o hb hbt hn
        exact up b o (r1.keep b o hbt hb) hbt hn
      · obtain ⟨m, o, es, ep, hob, hd, hr⟩ := r1.nsL
        obtain ⟨sl, e2⟩ := up _ o hob (SR.own_ne S.ok (S.ok.Wnew _ S.ok.WL)) (fun fs z => by rw [hd] at z; cases z)
        exact ⟨m, _, es, ep, e2, hd, hr⟩
end
end Mine
namespace Mine
open PySem PySem.W PySem.Calls PyProof.Rows

noncomputable def fmtD : PyData → Option (PyData × Bool)
  | .int a => if a.natAbs < 10 ^ 9 then some (.str (Str.ofString (toString a)), false) else none
  | .str x => if x.length ≤ 1000 then some (.str x, false) else none
  | _ => none
noncomputable def evJoin : Str → List EF → St → Out AV
  | out, [], st => .ok (.dat (.str out) false) st
  | out, F :: r, st => (F st).bind fun a st => match a.data st with
    | some (.str x) => if (out ++ x).length ≤ 10000 then evJoin (out ++ x) r st else .stuck
    | _ => .stuck
noncomputable def eItem (F1 F2 : EF) : EF := eOp2 (fun x y => (itemD x y).map fun z => (z, false)) F1 F2
noncomputable def eIsi (T : PyT) (F : EF) : EF := eOp1 (fun x => (isiD T x).map fun b => (.bool b, false)) F

section
variable {G : GC} {c : FC} {st st' : St} {vs : Nat → Value} {s s' : Shared} {v : Value} {av : AV} {x : PyData} {sc : Scope} {vars : List Str} {n : Nat} {A : Around}

theorem SE_item {value slice : Expr} {p : Pos} {F1 F2 : EF} (h1 : SE G sc vars (n + 1) value F1) (h2 : SE G sc vars (n + 1) slice F2) (hs : ∀ o i, subscripted slice false o i = operate [o, i] (getItem o i)) :
    SE G sc vars (n + 1) (.Subscript value slice p) (eItem F1 F2) :=
  SE_op2 h1 h2 (fun _ _ _ _ _ h => Subscript_ h) fun _ _ _ _ _ _ _ _ _ hu hB ra rb e => by
    obtain ⟨b, e1, e2⟩ := Option.map_eq_some_iff.mp e
    cases e2
    exact item_sound hu hs ra rb e1

theorem finQ {o : Out AV} {z : PyData} {f : Bool} {st2 : St} {s2 s3 : Shared} (ho : Out.ok (.dat z f) st2 = o) (S : Surr G c n A) (r : SR G c st2 vs s2) (k : KeepBut c.τ s.heap s2.heap) (sh : Shares st2.ρ st.ρ) {v : Value}
    (q : KeepAll s2.heap s3.heap ∧ (s3.gens = s2.gens ∧ s3.drawn = s2.drawn ∧ s3.os = s2.os) ∧ Rd G.w s3.heap (c.Ban st2.ρ vs) v z ∧ (f = true → ∃ a, v = .ref a ∧ s2.heap.get? a = none)) : QE G c st vs s o v s3 := by
  subst ho
  obtain ⟨q1, q2, q3, q4⟩ := q
  refine ⟨r.keepAll S.ok q1 q2, k.trans (q1.but _), sh, q3, ?_⟩
  cases f with
  | false => trivial
  | true =>
    obtain ⟨a, e, h⟩ := q4 rfl
    exact ⟨a, e, fresh_back k r h⟩

theorem PO.later {s s1 : Shared} {B : Addr → Prop} {t : Sem Value} {z : PyData} {f : Bool} (k : KeepAll s.heap s1.heap) (q : s1.gens = s.gens ∧ s1.drawn = s.drawn ∧ s1.os = s.os) (h : PO G A s1 B t z f) {E : Value → Shared → Prop} :
    wpAny G.M A t (fun v s' => KeepAll s.heap s'.heap ∧ (s'.gens = s.gens ∧ s'.drawn = s.drawn ∧ s'.os = s.os) ∧ Rd G.w s'.heap B v z ∧ (f = true → ∃ a, v = .ref a ∧ s.heap.get? a = none)) E s1 := by
  refine wpAny_mono (h E) (fun v s' p => ?_) fun _ _ e => e
  obtain ⟨p1, p2, p3, p4⟩ := p
  refine ⟨k.trans p1, ⟨p2.1.trans q.1, p2.2.1.trans q.2.1, p2.2.2.trans q.2.2⟩, p3, fun e => ?_⟩
  obtain ⟨a, e1, e2⟩ := p4 e
  refine ⟨a, e1, ?_⟩
  cases e3 : s.heap.get? a with
  | none => rfl
  | some o => rw [k _ _ e3] at e2; cases e2

theorem RdV.keep {w : World} {h h' : Heap} {B : Addr → Prop} {v : Value} {x : PyData} (r : RdV w h B v x) (k : KeepAll h h') : RdV w h' B v x := by
  cases r with
  | rd r => exact .rd (r.keep k)
  | top r => exact .top (r.mono (fun b o e n => ⟨k b o e, n⟩) fun o e => k _ _ e)
theorem banKeep {B : Addr → Prop} {h h' : Heap} (k : KeepAll h h') (hB : ∀ b, B b → ∃ o, h.get? b = some o) : ∀ b, B b → ∃ o, h'.get? b = some o := fun b q => let ⟨o, e⟩ := hB b q; ⟨o, k _ _ e⟩

theorem SE_slice {value slice : Expr} {p3 : Pos} {F1 : EF} {op : PyData → Option (PyData × Bool)} (h1 : SE G sc vars (n + 1) value F1)
    (ho : ∀ (env : Env) (A : Around) (E : Value → Shared → Prop) (s : Shared) (Q : Value → Shared → Prop) (a : Value) (x z : PyData) (f : Bool) (B : Addr → Prop), (∀ b, B b → ∃ o, s.heap.get? b = some o) → RdV G.w s.heap B a x → op x = some (z, f) →
      (∀ v s', KeepAll s.heap s'.heap ∧ (s'.gens = s.gens ∧ s'.drawn = s.drawn ∧ s'.os = s.os) ∧ Rd G.w s'.heap B v z ∧ (f = true → ∃ a, v = .ref a ∧ s.heap.get? a = none) → Q v s') →
      wpAny G.M A (eval slice env) (fun i s₂ => wpAny G.M A (subscriptTail value slice a i) Q E s₂) E s) :
    SE G sc vars (n + 1) (.Subscript value slice p3) (eOp1 op F1) := by
  intro c A st vs s hsc hv S r0 ns
  obtain ⟨o, eo⟩ : ∃ o, eOp1 op F1 st = o := ⟨_, rfl⟩
  rw [eo] at ns ⊢
  refine Subscript_ ?_
  refine h1.use hsc hv S r0 eo ns fun a st1 v1 s1 ho1 q1 q2 q3 q4 q5 => ?_
  cases ea : a.data st1 with
  | none => rw [ea] at ho1; exact absurd ho1.symm ns
  | some xa =>
    rw [ea] at ho1
    simp only [Option.bind_some] at ho1
    cases ez : op xa with
    | none => rw [ez] at ho1; exact absurd ho1.symm ns
    | some zf =>
      obtain ⟨z, f⟩ := zf
      rw [ez] at ho1
      exact ho _ _ _ _ _ _ _ _ _ _ (banIn S.ok q1) (q4.readV q1 ea) ez fun v s' q => finQ ho1 S q1 q2 q3 q
theorem SE_upto {value : Expr} {k : Nat} {kk} {p1 p2 p3 : Pos} {F1 : EF} (h1 : SE G sc vars (n + 1) value F1)
    (hs : ∀ o i, subscripted (.Slice none (some (.Constant (.int k) kk p1)) none p2) false o i = operate [i, o] (getItem o i)) :
    SE G sc vars (n + 1) (.Subscript value (.Slice none (some (.Constant (.int k) kk p1)) none p2) p3) (eOp1 (upD k) F1) :=
  SE_slice h1 fun env A E s Q a x z f B hB ra e hq => by
    refine wpAny_Slice (evalPart_none_step (evalPart_some_step (wpAny_Constant_int (evalPart_none_step ?_))))
    have k1 : KeepAll s.heap (s.heap.push { cls := .type "slice", data := .fields #[.none, .int (k : Int) s.toks, .none] }) := KeepAll.push _ _
    refine wpAny_mono (PO.later (s := s) (s1 := ⟨s.heap.push { cls := .type "slice", data := .fields #[.none, .int (k : Int) s.toks, .none] }, s.gens, s.drawn, s.toks + 1, s.os⟩) k1 ⟨rfl, rfl, rfl⟩ (slice_up (banKeep k1 hB) (hs _ _) ⟨_, Heap.get?_push_size _ rfl, rfl, rfl⟩ (ra.keep k1) e)) (fun v s' q => hq v s' q) fun _ _ e => e
theorem SE_from {value : Expr} {k : Nat} {kk} {p1 p2 p3 : Pos} {F1 : EF} (h1 : SE G sc vars (n + 1) value F1)
    (hs : ∀ o i, subscripted (.Slice (some (.Constant (.int k) kk p1)) none none p2) false o i = operate [i, o] (getItem o i)) :
    SE G sc vars (n + 1) (.Subscript value (.Slice (some (.Constant (.int k) kk p1)) none none p2) p3) (eOp1 (fromD k) F1) :=
  SE_slice h1 fun env A E s Q a x z f B hB ra e hq => by
    refine wpAny_Slice (evalPart_some_step (wpAny_Constant_int (evalPart_none_step (evalPart_none_step ?_))))
    have k1 : KeepAll s.heap (s.heap.push { cls := .type "slice", data := .fields #[.int (k : Int) s.toks, .none, .none] }) := KeepAll.push _ _
    refine wpAny_mono (PO.later (s := s) (s1 := ⟨s.heap.push { cls := .type "slice", data := .fields #[.int (k : Int) s.toks, .none, .none] }, s.gens, s.drawn, s.toks + 1, s.os⟩) k1 ⟨rfl, rfl, rfl⟩ (slice_from (banKeep k1 hB) (hs _ _) ⟨_, Heap.get?_push_size _ rfl, rfl, rfl⟩ (ra.keep k1) e)) (fun v s' q => hq v s' q) fun _ _ e => e

theorem SE_isi {T : PyT} {nm : Str} {e : Expr} {p p2 p3 : Pos} {F : EF} (h : SE G sc vars (n + 1) e F) (hs : ∀ env rest, starEach (e :: rest) env = (false, eval e env) :: starEach rest env)
    (hg : G.mg "isinstance" = none) (hk : sc.names.lookup ("isinstance" : Str) = some .globalImplicit)
    (hb : bootBuiltins nm = some (.type T.name)) (hg2 : G.mg nm = none) (hn : nm ≠ "__name__") (hk2 : sc.names.lookup nm = some .globalImplicit) (hd : (nm == ("__debug__" : Str)) = false) :
    SE G sc vars (n + 1) (.Call (.Name "isinstance" p) [e, .Name nm p3] [] p2) (eIsi T F) := by
  intro c A st vs s hsc hv S r ns
  obtain ⟨o, eo⟩ : ∃ o, eIsi T F st = o := ⟨_, rfl⟩
  rw [eo] at ns ⊢
  refine Call_Name (trees := backTo p2 (starEach [e, .Name nm p3] c.env)) rfl (load_builtin hsc S r hg (b := .builtin "isinstance") rfl (by decide) hk (by decide) ?_)
  have es : starEach [e, .Name nm p3] c.env = [(false, eval e c.env), (false, eval (.Name nm p3) c.env)] := by rw [hs]; rfl
  refine cw_builtin _ _ _ _ _ _ (by rw [es]; rfl) ?_
  rw [es]
  refine evalArgs_plain (spliced_cons ?_)
  refine h.use hsc hv S r eo ns fun a st1 v1 s1 ho1 q1 q2 q3 q4 q5 => ?_
  refine spliced_cons (load_builtin hsc S q1 hg2 hb hn hk2 hd (spliced_nil ?_))
  cases ea : a.data st1 with
  | none => rw [ea] at ho1; exact absurd ho1.symm ns
  | some xa =>
    rw [ea] at ho1
    simp only [Option.bind_some] at ho1
    cases ez : isiD T xa with
    | none => rw [ez] at ho1; exact absurd ho1.symm ns
    | some b =>
      rw [ez] at ho1
      exact finE ho1 S q1 q2 q3 (isi_sound (q4.readV q1 ea) ez)

theorem SE_fmt {e : Expr} {p : Pos} {F : EF} (h : SE G sc vars (n + 1) e F) : SE G sc vars (n + 1) (.FormattedValue e (-1) none p) (eOp1 fmtD F) :=
  SE_op1 h (fun _ _ _ _ _ h => FormattedValue_plain h) fun A s B a x z f _ _ r e => by
    cases x <;> simp [fmtD] at e
    · obtain ⟨h1, rfl, rfl⟩ := e
      obtain ⟨t, rfl⟩ := r.int_inv
      refine .str fun E Q h => formatField_int_small ?_ (h _ _)
      rename_i i
      by_cases q : i.natAbs = 0
      · rw [q]; decide
      · exact (Nat.log2_lt q).mpr (Nat.lt_trans h1 (by decide))
    · obtain ⟨h1, rfl, rfl⟩ := e
      obtain ⟨t, rfl⟩ := r.str_inv
      exact .str fun E Q h => formatField_str (fun t k => h t k) (sizeLine_le (by omega))

theorem join_sound : ∀ {es : List Expr} {Fs : List EF}, SEs G sc vars n es Fs → ∀ (out : Str) (c : FC) (A : Around) (st : St) (vs : Nat → Value) (s : Shared) (o : Out AV), out.length ≤ 10000 → c.env.scope = sc → c.vars = vars → Surr G c n A → SR G c st vs s → evJoin out Fs st = o → o ≠ .stuck →
    wpAny G.M A (joinParts out (evalEach es c.env)) (QE G c st vs s o) (EE G c o) s := by
  intro es Fs H
  induction H with
  | nil =>
    intro out c A st vs s o hl _ _ S r eo ns
    subst eo
    exact joinParts_nil ⟨r.keepAll S.ok (KeepAll.refl _) ⟨rfl, rfl, rfl⟩, (KeepAll.refl _).but _, .refl _, .str _ _, trivial⟩ (sizeLine_le (by omega))
  | @cons x F rest Fs h hs ih =>
    intro out c A st vs s o hl hsc hv S r eo ns
    show wpAny _ _ (joinParts out (eval x c.env :: evalEach rest c.env)) _ _ _
    refine joinParts_cons ?_
    refine h.use hsc hv S r eo ns fun a st1 v1 s1 ho q1 q2 q3 q4 q5 => ?_
    cases ea : a.data st1 with
    | none => rw [ea] at ho; exact absurd ho.symm ns
    | some xa =>
      have rv := q4.readV q1 ea
      rw [ea] at ho
      cases xa <;> first | exact absurd ho.symm ns | skip
      rename_i y
      obtain ⟨t, rfl⟩ := rv.str_inv
      simp only at ho ⊢
      split at ho
      · rename_i hl2
        refine ⟨sizeLine_le (by omega), ?_⟩
        exact wpAny_mono (ih (out ++ y) c A st1 vs s1 o hl2 hsc hv S q1 ho ns) (fun b s2 q => q.trans q2 q3 q1) fun _ _ e => e
      · exact absurd ho.symm ns
theorem SE_join {e1 e2 : Expr} {es : List Expr} {Fs : List EF} {p : Pos} (h : SEs G sc vars n (e1 :: e2 :: es) Fs) : SE G sc vars n (.JoinedStr (e1 :: e2 :: es) p) (evJoin Str.empty Fs) :=
  fun c A st vs s hsc hv S r ns => JoinedStr_many (join_sound h Str.empty c A st vs s _ (by decide) hsc hv S r rfl ns)

theorem rdInts_of (w : World) {vs : List Value} {ts : List Int} (h : IntsAre vs ts) (i : Nat) (t : Int) (e : ts[i]? = some t) : ∃ u, vs[i]? = some (.int t u) := by
  have : (ts.map PyData.int)[i]? = some (.int t) := by simp [e]
  refine hide fun b_ hb_ => ?_
  obtain ⟨v, h1, h2⟩ := (rdAll_ints (w := w) (h := default) (B := fun _ => False) h).get this
  cases h2
  refine hb_ ?_
  exact ⟨_, h1⟩

theorem intsAre_drop {vs : List Value} {ts : List Int} (h : IntsAre vs ts) : IntsAre vs.dropLast ts.dropLast := by
  induction vs generalizing ts with
  | nil => cases h; exact .nil
  | cons v vs ih =>
    have hl := h.length
    cases ts with
    | nil => simp at hl
    | cons t ts =>
      cases h with
      | cons _ =>
        cases vs with
        | nil => 
          have : ts = [] := by simpa using hl.symm
          subst this
          exact .nil
        | cons v2 vs =>
          cases ts with
          | nil => simp at hl
          | cons t2 ts => exact .cons _ _ (ih (by assumption))

theorem SE_pop {nm : Str} {p p2 p3 : Pos} (i : Nat) (hi : vars[i]? = some nm) (hd : (nm == ("__debug__" : Str)) = false) (hl : (p2.endLine == p3.line) = true)
    (hbase : ∀ env, attributeBase (.Name nm p) "pop" env (eval (.Name nm p) env) = eval (.Name nm p) env) :
    SE G sc vars (n + 1) (.Call (.Attribute (.Name nm p) "pop" p2) [] [] p3) (ePop i) := by
  intro c A st vs s hsc hv S r ns
  obtain ⟨o, eo⟩ : ∃ o, ePop i st = o := ⟨_, rfl⟩
  rw [eo] at ns ⊢
  subst hv
  unfold ePop at eo
  cases e : st.ρ[i]? with
  | none => rw [e] at eo; exact absurd eo.symm ns
  | some sl =>
    cases sl with
    | tape =>
      simp only [e] at eo
      cases et : st.ts.reverse with
      | nil => rw [et] at eo; exact absurd eo.symm ns
      | cons t rr =>
        rw [et] at eo
        simp only at eo
        split at eo
        case isFalse => exact absurd eo.symm ns
        rename_i hsz0
        have va : VarAt s.heap c.env nm (some (vs i)) := r.var i nm _ hi e
        have vt : vs i = .ref c.τ := r.slot i _ e
        obtain ⟨tv, tn, te, ti⟩ := r.tape
        have ets : st.ts = rr.reverse ++ [t] := by rw [← List.reverse_reverse st.ts, et]; simp
        have hlen := ti.1.length
        have h1 : st.ts[st.ts.length - 1]? = some t := by rw [ets]; simp
        obtain ⟨u, hu⟩ := rdInts_of G.w ti.1 _ _ h1
        have hu2 : tv[tv.size - 1]? = some (.int t u) := by
          rw [← Array.getElem?_toList]
          have : tv.toList.length = st.ts.length := by simpa using hlen
          rw [← this] at hu
          simpa using hu
        refine wpAny_Call_method (T := "list") (id := "list.pop") (hbase _) (by rfl) hl F.plainAttrs_list F.slot_list_pop (by rfl) (wpAny_Name (load_var S.ok.kind va ?_) hd)
        rw [vt]
        refine ⟨⟨_, te, rfl⟩, fun a ea => ?_, ?_⟩
        · cases ea; exact ⟨_, te, rfl⟩
        refine P.pop_list te hu2 ?_ ?_
        · subst eo
          have ht2 : (s.heap.update c.τ (Obj.mapSeq fun xs => xs.eraseIdxIfInBounds (tv.size - 1))).get? c.τ = some (LObj (tv.eraseIdxIfInBounds (tv.size - 1)) _) := IsL.update te _
          have hkeep : KeepBut c.τ s.heap (s.heap.update c.τ (Obj.mapSeq fun xs => xs.eraseIdxIfInBounds (tv.size - 1))) := fun b o hb e => by rw [Heap.get?_update_other _ _ (Ne.symm hb)]; exact e
          have hts : TapeAt G.I (s.heap.update c.τ (Obj.mapSeq fun xs => xs.eraseIdxIfInBounds (tv.size - 1))) c.τ rr.reverse := by
            refine ⟨_, _, ht2, ?_, S.gok.popI _ _ _ ti.2 fun q => by rw [q] at hu2; simp at hu2⟩
            have h2 := intsAre_drop ti.1
            have h3 : (tv.eraseIdxIfInBounds (tv.size - 1)).toList = tv.toList.dropLast := by
              rw [Array.eraseIdxIfInBounds]
              split
              · rw [Array.toList_eraseIdx, List.eraseIdx_eq_take_drop_succ, List.dropLast_eq_take]; simp; omega
              · rename_i hh
                have : tv.size = 0 := by omega
                have : tv.toList = [] := by simpa using this
                rw [this]; rfl
            rw [h3, show rr.reverse = st.ts.dropLast by rw [ets]; simp]
            exact h2
          exact ⟨r.step S.ok hkeep hts ⟨rfl, rfl, rfl⟩, hkeep, .refl _, .int _ _, trivial⟩
        · simp only [Array.length_toList] at hlen; exact sizeLine_le (by omega)
    | _ => rw [e] at eo; exact absurd eo.symm ns
end
end Mine
namespace Mine
open PySem PySem.W PySem.Calls PyProof.Rows

inductive RP {K : Type} (w : World) (h : Heap) (B : Addr → Prop) (enc : K → PyData) : List DictEntry → List (K × Value) → Prop
  | nil : RP w h B enc [] []
  | cons {hs key v k es kvs} : hs = hkey w (enc k) → Rd w h B key (enc k) → RP w h B enc es kvs → RP w h B enc (⟨hs, key, v⟩ :: es) ((k, v) :: kvs)

section
variable {prog : Program} {w : World} {h : Heap} {B : Addr → Prop} {K : Type} [DecidableEq K] {enc : K → PyData}

theorem RP.ents : ∀ {es : List DictEntry} {kv : List (K × Value)} {kvs : List (PyData × PyData)}, RP w h B enc es kv → kvs.map (·.1) = kv.map (fun p => enc p.1) → RdAll w h B (kv.map (·.2)) (kvs.map (·.2)) → RdEnts w h B es kvs := by
  intro es kv kvs H
  induction H generalizing kvs with
  | nil =>
    intro e _
    cases List.map_eq_nil_iff.mp e
    exact .nil
  | cons h1 h2 _ ih =>
    intro e r
    cases kvs with | nil => cases e | cons d kvs => ?_
    obtain ⟨dk, dv⟩ := d
    simp only [List.map_cons, List.cons.injEq] at e
    obtain ⟨e1, e2⟩ := e
    subst e1
    cases r with
    | cons r1 r2 => exact .cons h1 h2 r1 (ih e2 r2)

theorem stored_cons {kv : List (K × Value)} {k0 k : K} {v0 v : Value} (nd : (k0 :: kv.map (·.1)).Nodup) : stored ((k0, v0) :: kv) k v = if k0 = k then (k0, v) :: kv else (k0, v0) :: stored kv k v := by
  unfold stored
  by_cases q : k0 = k
  · subst q
    simp only [List.any_cons, decide_true, Bool.true_or, if_true, List.map_cons, List.cons.injEq, true_and]
    have : ∀ p ∈ kv, (if p.1 = k0 then (p.1, v) else p) = p := fun p hp => by
      rw [if_neg]
      rintro rfl
      exact (List.nodup_cons.mp nd).1 (List.mem_map.mpr ⟨p, hp, rfl⟩)
    rw [List.map_congr_left this]
    simp
  · simp only [List.any_cons, q, decide_false, Bool.false_or, if_false, List.map_cons, List.cons_append]
    split <;> rfl

theorem stored_reads (henc : ∀ a b, PyData.eqv (enc a) (enc b) = decide (a = b)) {k : K} {v : Value} {x : PyData} (rv : Rd w h B v x) : ∀ {kv : List (K × Value)} {kvs : List (PyData × PyData)}, (kv.map (·.1)).Nodup → kvs.map (·.1) = kv.map (fun p => enc p.1) → RdAll w h B (kv.map (·.2)) (kvs.map (·.2)) →
    (dset (enc k) x kvs).map (·.1) = (stored kv k v).map (fun p => enc p.1) ∧ RdAll w h B ((stored kv k v).map (·.2)) ((dset (enc k) x kvs).map (·.2)) := by
  intro x_
  induction x_ with
  | nil =>
    intro kvs _ e _
    cases List.map_eq_nil_iff.mp e
    exact ⟨rfl, .cons rv .nil⟩
  | cons h0_ kv ih =>
    obtain ⟨k0, v0⟩ := h0_
    intro kvs nd e r
    cases kvs with | nil => cases e | cons d kvs => ?_
    obtain ⟨dk, dv⟩ := d
    simp only [List.map_cons, List.cons.injEq] at e
    obtain ⟨e1, e2⟩ := e
    subst e1
    cases r with
    | cons r1 r2 =>
      rw [stored_cons (by simpa using nd)]
      simp only [dset, henc]
      by_cases q : k0 = k
      · simp only [q, decide_true, if_true, List.map_cons, e2, true_and]
        exact .cons rv r2
      · simp only [q, decide_false, Bool.false_eq_true, if_false, List.map_cons]
        obtain ⟨h1, h2⟩ := ih (List.nodup_cons.mp (by simpa using nd)).2 e2 r2
        exact ⟨by rw [h1], .cons r1 h2⟩

theorem rp_of_pairs {knd : KeyKind prog w K} (hback : ∀ k v, knd.is k v = true → Rd w h B v (enc k)) (hh : ∀ k, hkey w (enc k) = knd.hash k) :
    ∀ {es : List DictEntry} {kv : List (K × Value)}, Pairs knd es kv → (∀ e ∈ es, ∃ k, knd.is k e.key = true ∧ e.hash = knd.hash k) → RP w h B enc es kv := by
  intro es kv H
  induction H with
  | nil => intro _; exact .nil
  | @cons e kv0 _ _ h1 h2 _ ih =>
    obtain ⟨k, v⟩ := kv0
    intro hk
    obtain ⟨k', e1, e2⟩ := hk e List.mem_cons_self
    obtain rfl : k' = k := knd.inj _ _ _ e1 h1
    obtain ⟨hs, key, val⟩ := e
    simp only at h1 h2 e2
    subst h2
    exact .cons (by rw [hh]; exact e2) (hback _ _ h1) (ih fun e he => hk e (List.mem_cons_of_mem _ he))

theorem exactDict {o : Obj} {es : Array DictEntry} {n : Nat} (c : o.ExactDict) (d : o.data = .dict es n) : o = DObj es n := by
  obtain ⟨a, b, cc, dd⟩ := o
  obtain ⟨rfl, rfl, rfl⟩ := c
  simp only at d
  subst d
  rfl
theorem isInt_rd' {k : Int} {v : Value} (e : (intKind prog w).is k v = true) : Rd w h B v (.int k) := by
  have : Value.isInt k v = true := e
  cases v <;> simp [Value.isInt] at this
  subst this; exact .int _ _
theorem isStr_rd' {k : Str} {v : Value} (e : (PySem.strKind prog w).is k v = true) : Rd w h B v (.str k) := by
  have : Value.isStrOf k v = true := e
  cases v <;> simp [Value.isStrOf] at this
  subst this; exact .str _ _
end

structure Set1 (w : World) (B : Addr → Prop) (s : Shared) (d : Addr) (kvs : List (PyData × PyData)) (h' : Heap) : Prop where
  obj : ∃ es n, h'.get? d = some (DObj es n) ∧ RdEnts w h' B es.toList kvs
  nd : (kvs.map (·.1)).Nodup
  same : ∀ b, b ≠ d → h'.get? b = s.heap.get? b

section
variable {G : GC} {A : Around} {s : Shared} {B : Addr → Prop} {d : Addr} {es : Array DictEntry} {n : Nat} {kvs : List (PyData × PyData)} {kx x : PyData} {key v : Value}

theorem RdAll.mono' {w : World} {h h' : Heap} {l : List Value} {ds : List PyData} (bd : B d) (sm : ∀ b, b ≠ d → h'.get? b = h.get? b) (r : RdAll w h B l ds) : RdAll w h' B l ds :=
  r.mono fun b o e nb => ⟨(sm b fun q => nb (q ▸ bd)).trans e, nb⟩
theorem Rd.mono' {w : World} {h h' : Heap} (bd : B d) (sm : ∀ b, b ≠ d → h'.get? b = h.get? b) (r : Rd w h B v x) : Rd w h' B v x :=
  r.mono fun b o e nb => ⟨(sm b fun q => nb (q ▸ bd)).trans e, nb⟩

theorem nodup_enc {K : Type} {enc : K → PyData} (hinj : ∀ a b, enc a = enc b → a = b) {kv : List (K × Value)} (nd : (kv.map (·.1)).Nodup) : (kv.map fun p => enc p.1).Nodup := by
  rw [show kv.map (fun p => enc p.1) = (kv.map (·.1)).map enc by simp]
  exact List.pairwise_map.mpr (nd.imp fun {a b} q e => q (hinj _ _ e))

theorem set_pairs {K : Type} [DecidableEq K] {knd : KeyKind G.prog G.w K} {enc : K → PyData} (henc : ∀ a b, PyData.eqv (enc a) (enc b) = decide (a = b)) (hinj : ∀ a b, enc a = enc b → a = b)
    (hrd : ∀ h k v, Rd G.w h B v (enc k) → knd.is k v = true) (hback : ∀ h k v, knd.is k v = true → Rd G.w h B v (enc k)) (hh : ∀ k, hkey G.w (enc k) = knd.hash k) {tk : Nat} {T : Sem Unit} {E : Value → Shared → Prop} {Q : Unit → Shared → Prop}
    (hT : ∀ (kv : List (K × Value)) (k : K) (E : Value → Shared → Prop) (Q : Unit → Shared → Prop), knd.is k key = true → s.heap.DictOf knd d kv → (∀ h', h'.DictOf knd d (stored kv k v) → Heap.SameBut d s.heap h' → Q () { s with heap := h', toks := tk }) → kv.length ≤ sizeLine → wpAny G.M A T Q E s)
    (bd : B d) (e : s.heap.get? d = some (DObj es n)) (re : RdEnts G.w s.heap B es.toList kvs) (nd : (kvs.map (·.1)).Nodup) (hl : kvs.length ≤ 10000) {k : K} (rk : Rd G.w s.heap B key (enc k)) (rv : Rd G.w s.heap B v x) (hk : ∀ p ∈ kvs, ∃ k, p.1 = enc k)
    (h : ∀ h', Set1 G.w B s d (dset (enc k) x kvs) h' → Q () { s with heap := h', toks := tk }) : wpAny G.M A T Q E s := by
  refine hide fun b_ hb_ => ?_
  obtain ⟨kv, hd, p1, p2, p3, p4⟩ := dictOf_of (knd := knd) henc (hrd _) hh e re nd hk
  refine hb_ ?_
  have hlen : kv.length = kvs.length := by have := congrArg List.length p1; simpa using this.symm
  refine hT kv k E Q (hrd _ _ _ rk) hd (fun h' hd' sm => h h' ?_) (sizeLine_le (by omega))
  refine hide fun b_ hb_ => ?_
  obtain ⟨o, es', n', ho, hc, hdd, hkk, hpp, hnn⟩ := hd'
  refine hb_ ?_
  have ndk : (kv.map (·.1)).Nodup := by obtain ⟨_, _, _, _, _, _, _, _, z⟩ := hd; exact z
  obtain ⟨r1, r2⟩ := stored_reads henc rv ndk p1 p2
  have sm' : ∀ b, b ≠ d → h'.get? b = s.heap.get? b := fun b q => sm.2 b q
  refine ⟨⟨es', n', by rw [ho, exactDict hc hdd], (rp_of_pairs (hback _) hh hpp fun e he => hkk e (Array.mem_toList_iff.mp he)).ents r1 (r2.mono' bd sm')⟩, ?_, sm'⟩
  rw [r1]
  exact nodup_enc hinj hnn

theorem storedH_map {K : Type} [DecidableEq K] {xs : List (K × Addr × Value)} {k : K} {a : Addr} {v : Value} : (storedH xs k a v).map (fun p => (p.1, p.2.2)) = stored (xs.map fun p => (p.1, p.2.2)) k v := by
  have h1 : (atKey xs k).isSome = (xs.map fun p => (p.1, p.2.2)).any fun kv => decide (kv.1 = k) := by
    unfold atKey
    induction xs with
    | nil => rfl
    | cons y ys ih =>
      simp only [List.find?_cons, List.map_cons, List.any_cons]
      by_cases q : y.1 = k
      · simp [q]
      · simp only [q, decide_false, Bool.false_or]; exact ih
  unfold storedH stored
  rw [h1]
  split
  · simp only [List.map_map]
    refine List.map_congr_left fun y hy => ?_
    simp only [Function.comp_def, putAt]
    split <;> rfl
  · simp

theorem rp_of_tup {h : Heap} : ∀ {xs : List (List Int × Addr × Value)}, (∀ x ∈ xs, Rd G.w h B (.ref x.2.1) (.tuple (x.1.map .int))) → RP G.w h B (fun ks : List Int => PyData.tuple (ks.map .int)) (xs.map (entryOfKey (tupleKind (intKind G.prog G.w)))) (xs.map fun p => (p.1, p.2.2)) := by
  intro x_
  induction x_ with
  | nil =>
    intro _
    exact .nil
  | cons y ys ih =>
    intro hx
    exact .cons (by rw [tup_hash (prog := G.prog)]; rfl) (hx y List.mem_cons_self) (ih fun x hx' => hx x (List.mem_cons_of_mem _ hx'))

theorem set_tup {T : Sem Unit} {E : Value → Shared → Prop} {Q : Unit → Shared → Prop} {ks : List Int}
    (hT : ∀ (xs : List (List Int × Addr × Value)) (a : Addr) (E : Value → Shared → Prop) (Q : Unit → Shared → Prop), key = .ref a → IsTupleKey (intKind G.prog G.w) s.heap ks a → s.heap.DictOfH (tupleKind (intKind G.prog G.w)) d xs →
      (∀ h', h'.DictOfH (tupleKind (intKind G.prog G.w)) d (storedH xs ks a v) → Heap.SameBut d s.heap h' → Q () { s with heap := h', toks := s.toks + (ks.length + 1) }) → xs.length ≤ sizeLine → wpAny G.M A T Q E s)
    (bd : B d) (e : s.heap.get? d = some (DObj es n)) (re : RdEnts G.w s.heap B es.toList kvs) (nd : (kvs.map (·.1)).Nodup) (hl : kvs.length ≤ 10000) (rk : Rd G.w s.heap B key (.tuple (ks.map .int))) (rv : Rd G.w s.heap B v x) (hk : ∀ p ∈ kvs, ∃ ks : List Int, p.1 = .tuple (ks.map .int))
    (h : ∀ h' tk, Set1 G.w B s d (dset (.tuple (ks.map .int)) x kvs) h' → Q () { s with heap := h', toks := tk }) : wpAny G.M A T Q E s := by
  refine hide fun b_ hb_ => ?_
  obtain ⟨xs, p1, p2, p3, p4, p5, p6⟩ := ents_tup (prog := G.prog) re hk
  obtain ⟨a, rfl, hi⟩ := tup_is (prog := G.prog) rk
  refine hb_ ?_
  have hlen : xs.length = kvs.length := by have := congrArg List.length p3; simpa using this.symm
  have ndx := nodup_tup p3 nd
  have hm : s.heap.DictOfH (tupleKind (intKind G.prog G.w)) d xs := ⟨_, es, n, e, ⟨rfl, rfl, rfl⟩, rfl, p1, fun x hx => (p2 x hx).1, ndx⟩
  refine hT xs a E Q rfl hi hm (fun h' hd' sm => h h' _ ?_) (sizeLine_le (by omega))
  refine hide fun b_ hb_ => ?_
  obtain ⟨o, es', n', ho, hc, hdd, hkk, his, hnn⟩ := hd'
  refine hb_ ?_
  have sm' : ∀ b, b ≠ d → h'.get? b = s.heap.get? b := fun b q => sm.2 b q
  have q1 : kvs.map (·.1) = (xs.map fun p => (p.1, p.2.2)).map (fun p => (fun ks : List Int => PyData.tuple (ks.map .int)) p.1) := by rw [p3]; simp
  have q2 : RdAll G.w s.heap B ((xs.map fun p => (p.1, p.2.2)).map (·.2)) (kvs.map (·.2)) := by rw [List.map_map]; exact p4
  obtain ⟨r1, r2⟩ := stored_reads (enc := fun ks : List Int => PyData.tuple (ks.map .int)) (k := ks) eqv_tup rv (by rw [List.map_map]; exact ndx) q1 q2
  rw [← storedH_map (a := a)] at r1 r2
  refine ⟨⟨es', n', by rw [ho, exactDict hc hdd], ?_⟩, ?_, sm'⟩
  · rw [hkk]
    refine (rp_of_tup fun y hy => ?_).ents r1 (r2.mono' bd sm')
    rcases mem_storedH hy with ⟨z, hz, e1, e2⟩ | ⟨e1, e2⟩
    · rw [e1, e2]; exact (p2 z hz).2.mono' bd sm'
    · rw [e1, e2]; exact rk.mono' bd sm'
  · rw [r1]
    refine nodup_enc (enc := fun ks : List Int => PyData.tuple (ks.map .int)) enc_tup_inj ?_
    rw [List.map_map]; exact hnn

theorem dset_sound {b : Bool} (hu : A.units + 1 < cLine) {E : Value → Shared → Prop} {Q : Unit → Shared → Prop} (bd : B d) (e : s.heap.get? d = some (DObj es n)) (re : RdEnts G.w s.heap B es.toList kvs) (nd : (kvs.map (·.1)).Nodup) (hl : kvs.length ≤ 10000)
    (rk : Rd G.w s.heap B key kx) (rv : Rd G.w s.heap B v x) (hk : keysOk kx kvs = true) (h : ∀ h' tk, Set1 G.w B s d (dset kx x kvs) h' → Q () { s with heap := h', toks := tk }) :
    wpAny G.M A (if b then setItem (.ref d) key v else dictSet d key v) Q E s := by
  simp only [keysOk, Bool.or_eq_true, Bool.and_eq_true] at hk
  rcases hk with (⟨h1, h2⟩ | ⟨h1, h2⟩) | ⟨h1, h2⟩
  · cases kx <;> simp [isIntK] at h1
    refine set_pairs (tk := s.toks + 1) (knd := intKind G.prog G.w) (enc := PyData.int) eqv_int (fun a b e => by cases e; rfl) (fun h => int_hrd) (fun h k v e => isInt_rd' e) (fun _ => rfl) ?_ bd e re nd hl rk rv (keys_int h2) (fun h' q => h h' _ q)
    intro kv k E Q q1 q2 q3 q4
    cases b
    · exact wpAny_dictSet_pairs q1 q2 q3 q4
    · exact wpAny_setItem_pairs q1 q2 q3 q4
  · obtain ⟨ks, rfl⟩ := tupK_inv h1
    refine set_tup ?_ bd e re nd hl rk rv (keys_tup h2) h
    rintro xs a E Q rfl q1 q2 q3 q4
    cases b
    · exact wpAny_dictSet_heap (knd := tupleKind (intKind G.prog G.w)) (show A.units < cLine by omega) q1 q2 q3 q4
    · exact wpAny_setItem_heap (knd := tupleKind (intKind G.prog G.w)) (show A.in1.units < cLine by exact hu) q1 q2 q3 q4
  · cases kx <;> simp [isStrK] at h1
    refine set_pairs (tk := s.toks + 1) (knd := PySem.strKind G.prog G.w) (enc := PyData.str) eqv_str (fun a b e => by cases e; rfl) (fun h => str_hrd) (fun h k v e => isStr_rd' e) (fun _ => rfl) ?_ bd e re nd hl rk rv (keys_str h2) (fun h' q => h h' _ q)
    intro kv k E Q q1 q2 q3 q4
    cases b
    · exact wpAny_dictSet_pairs q1 q2 q3 q4
    · exact wpAny_setItem_pairs q1 q2 q3 q4
end
end Mine
namespace Mine
open PySem PySem.W PySem.Calls PyProof.Rows

noncomputable def upd (vs : Nat → Value) (i : Nat) (v : Value) : Nat → Value := fun j => if j = i then v else vs j
theorem upd_same (vs : Nat → Value) (i : Nat) (v : Value) : upd vs i v i = v := by simp [upd]
theorem upd_ne (vs : Nat → Value) {i j : Nat} (v : Value) (h : j ≠ i) : upd vs i v j = vs j := by simp [upd, h]

section
variable {G : GC} {c : FC} {st st1 st' : St} {vs : Nat → Value} {s s1 s' : Shared} {v : Value} {av : AV} {x : PyData} {sc : Scope} {vars : List Str} {n : Nat} {A : Around}


theorem funFrames_nf {h h' base : Heap} (k : ∀ b o, h.get? b = some o → (∀ vs, o.data ≠ .fields vs) → ∃ o', h'.get? b = some o' ∧ ∀ vs, o'.data ≠ .fields vs) : ∀ {l : List Env}, h.FunFrames base l → h'.FunFrames base l := by
  intro x_
  induction x_ with
  | nil =>
    intro _
    exact trivial
  | cons env rest ih =>
    rintro ⟨hk, ⟨L, o, hf, hn, ho, hd⟩, hr⟩
    obtain ⟨o', ho', hd'⟩ := k L o ho hd
    exact ⟨hk, ⟨L, o', hf, hn, ho', hd'⟩, ih hr⟩

theorem SR.store {nm : Str} {i : Nat} (ok : c.Ok G) (hown : c.ownc = true ∨ c.env.kindOf nm = some .local) (r : SR G c st vs s) (hi : c.vars[i]? = some nm) (sl' : Slot) (hne : sl' ≠ .unset)
    (hslots : ∀ (j : Nat) (sl : Slot), (st.ρ.set i sl')[j]? = some sl → SlotR G.w s.heap (c.Ban (st.ρ.set i sl') (upd vs i v)) c sl (upd vs i v j))
    (huniq : ∀ (a b : Nat) (sa sb : Slot) (x y : PyData), a ≠ b → (st.ρ.set i sl')[a]? = some sa → (st.ρ.set i sl')[b]? = some sb → sa.owned = some x → sb.owned = some y → upd vs i v a ≠ upd vs i v b)
    {E : Value → Shared → Prop} {Q : Unit → Shared → Prop}
    (h : ∀ s2, SR G c ⟨st.ρ.set i sl', st.ts⟩ (upd vs i v) s2 → (∀ b o, (¬ c.W b ∨ (c.env.kindOf nm = some .local ∧ b ≠ c.L)) → s.heap.get? b = some o → s2.heap.get? b = some o) → Q () s2) : wpAny G.M A (storeName c.env nm v) Q E s := by
  have hil : i < st.ρ.length := by rw [r.len]; exact (List.getElem?_eq_some_iff.mp hi).1
  have va := r.var i nm st.ρ[i] hi (List.getElem?_eq_getElem hil)
  have fin : ∀ (h' : Heap) (tk : Nat) (X : Addr), c.W X → (∀ b, b ≠ X → h'.get? b = s.heap.get? b) → (∃ o o', s.heap.get? X = some o ∧ h'.get? X = some o' ∧ ((∃ a b, o.data = .dict a b) ∨ (∃ a, o.data = .cell a)) ∧ ((∃ a b, o'.data = .dict a b) ∨ (∃ a, o'.data = .cell a))) →
      (∀ (j : Nat) (n : Str) (sl : Slot), c.vars[j]? = some n → (st.ρ.set i sl')[j]? = some sl → VarAt h' c.env n (sl.ov (upd vs i v j))) → (∃ m, h'.Ns c.L m) → (c.env.kindOf nm = some .local → X = c.L) → Q () { s with heap := h', toks := tk } := by
    intro h' tk X hX sm hob hv hnL hXL
    obtain ⟨o, o', eo, eo', hd, hd'⟩ := hob
    have sm2 : ∀ b o, ¬ c.W b → s.heap.get? b = some o → h'.get? b = some o := fun b o nb e => (sm b fun q => nb (q ▸ hX)).trans e
    have hinX : c.hin.get? X = none := ok.Wnew X hX
    have Xτ : X ≠ c.τ := SR.own_ne ok hinX
    have km : ∀ b o, s.heap.get? b = some o → ¬ c.Ban (st.ρ.set i sl') (upd vs i v) b → h'.get? b = some o ∧ ¬ c.Ban (st.ρ.set i sl') (upd vs i v) b := fun b o e nb => ⟨sm2 b o (fun q => nb (.inr (.inl q))) e, nb⟩
    refine h _ ⟨by simpa using r.len, hv, fun j sl e => ?_, huniq, ?_, fun b o nb e => ?_, ?_, r.rest, fun b hb => ?_, ?_⟩ (fun b o nb e => nb.elim (fun nb => sm2 b o nb e) fun q => (sm b fun z => q.2 (z.trans (hXL q.1))).trans e)
    · have z := hslots j sl e
      unfold SlotR at z ⊢
      cases sl with
      | unset => trivial
      | sh y => exact z.mono km
      | own y => obtain ⟨a, e, t, f1, f2⟩ := z; exact ⟨a, e, t.mono km fun o q => sm2 a o f2 q, f1, f2⟩
      | lent y => obtain ⟨a, e, t, f1, f2⟩ := z; exact ⟨a, e, t.mono km fun o q => sm2 a o f2 q, f1, f2⟩
      | tape => exact z
    · obtain ⟨tv, tn, te, ti⟩ := r.tape
      exact ⟨tv, tn, (sm _ (Ne.symm Xτ)).trans te, ti⟩
    · have hb : b ≠ X := fun q => by rw [q, hinX] at e; cases e
      exact (sm b hb).trans (r.keep b o nb e)
    · refine funFrames_nf (fun b ob e nf => ?_) r.frames
      by_cases q : b = X
      · subst q
        refine ⟨o', eo', fun fs z => ?_⟩
        rcases hd' with ⟨_, _, w⟩ | ⟨_, w⟩ <;> (rw [w] at z; cases z)
      · exact ⟨ob, (sm b q).trans e, nf⟩
    · by_cases q : b = X
      · subst q; exact ⟨_, eo'⟩
      · obtain ⟨ob, eb⟩ := r.wIn b hb
        exact ⟨ob, (sm b q).trans eb⟩
    · exact hnL
  unfold VarAt at va
  split at va
  · rename_i ek
    obtain ⟨m, hn, hm⟩ := va
    refine wpAny_storeName_local ek hn (fun h' hn' sb => ?_) (by rw [ok.kind]; rfl)
    obtain ⟨o, es, ep, ho, hd, rr⟩ := id hn
    obtain ⟨o', es', ep', ho', hd', rr'⟩ := id hn'
    refine fin h' _ c.env.locals (by rw [ok.locals]; exact ok.WL) (fun b q => sb.2 b q) ⟨o, o', ho, ho', .inl ⟨_, _, hd⟩, .inl ⟨_, _, hd'⟩⟩ (fun j n2 sl hj hsl => ?_) (by rw [← ok.locals]; exact ⟨_, hn'⟩) (fun _ => ok.locals)
    by_cases q : j = i
    · subst q
      rw [hi] at hj; cases hj
      rw [List.getElem?_set_self hil] at hsl; cases hsl
      unfold VarAt
      rw [ek]
      refine ⟨_, hn', ?_⟩
      cases sl' with
      | unset => exact absurd rfl hne
      | _ => simp [Slot.ov, upd_same]
    · rw [List.getElem?_set_ne (Ne.symm q)] at hsl
      have hnm : n2 ≠ nm := fun e => q ((List.getElem?_inj (List.getElem?_eq_some_iff.mp hj).1 ok.nodup).mp (by rw [hj, hi, e]))
      have vj := r.var j n2 sl hj hsl
      rw [upd_ne _ _ q]
      unfold VarAt at vj ⊢
      split at vj
      · obtain ⟨m2, hn2, hm2⟩ := vj
        rename_i e2
        refine ⟨_, hn', ?_⟩
        rw [if_neg hnm]
        rw [hn.eq_nsMap, ← hn2.eq_nsMap]; exact hm2
      · obtain ⟨ca, h1, oc, h2, h3⟩ := vj
        refine ⟨ca, h1, oc, (sb.2 ca ?_).trans h2, h3⟩
        exact get_ne h2 ho (by rw [h3, hd]; intro z; cases z)
      · exact vj
  · rename_i ek
    obtain ⟨ca, hca, hcell⟩ := va
    refine wpAny_storeName_cell ok.kind ek hca hcell fun h' hc' sb => ?_
    obtain ⟨o, ho, hd⟩ := id hcell
    obtain ⟨o', ho', hd'⟩ := id hc'
    refine fin h' _ ca (ok.Wcell (hown.resolve_right (by rw [ek]; decide)) nm ca hca) (fun b q => sb.2 b q) ⟨o, o', ho, ho', .inr ⟨_, hd⟩, .inr ⟨_, hd'⟩⟩ (fun j n2 sl hj hsl => ?_) (by obtain ⟨m, o2, es2, ep2, ho2, hd2, hr2⟩ := r.nsL; exact ⟨m, o2, es2, ep2, (sb.2 _ (get_ne ho2 ho (by rw [hd, hd2]; intro z; cases z))).trans ho2, hd2, hr2⟩) (fun q => by rw [ek] at q; cases q)
    by_cases q : j = i
    · subst q
      rw [hi] at hj; cases hj
      rw [List.getElem?_set_self hil] at hsl; cases hsl
      unfold VarAt
      rw [ek]
      refine ⟨ca, hca, ?_⟩
      cases sl' with
      | unset => exact absurd rfl hne
      | _ => simpa [Slot.ov, upd_same] using hc'
    · rw [List.getElem?_set_ne (Ne.symm q)] at hsl
      have hnm : n2 ≠ nm := fun e => q ((List.getElem?_inj (List.getElem?_eq_some_iff.mp hj).1 ok.nodup).mp (by rw [hj, hi, e]))
      have vj := r.var j n2 sl hj hsl
      rw [upd_ne _ _ q]
      unfold VarAt at vj ⊢
      split at vj
      · obtain ⟨m2, ⟨o2, es2, ep2, ho2, hd2, rr2⟩, hm2⟩ := vj
        refine ⟨m2, ⟨o2, es2, ep2, (sb.2 _ ?_).trans ho2, hd2, rr2⟩, hm2⟩
        exact get_ne ho2 ho (by rw [hd, hd2]; intro z; cases z)
      · obtain ⟨ca2, h1, oc, h2, h3⟩ := vj
        refine ⟨ca2, h1, oc, (sb.2 ca2 fun e => ?_).trans h2, h3⟩
        subst e
        exact hnm (ok.cinj _ _ _ h1 hca)
      · exact vj
  · exact va.elim

theorem tl_ne {a b : Array Value} {n m : Nat} (e : some (TObj a n) = some (LObj b m)) : False := by
  have := congrArg (fun o : Option Obj => o.map (·.cls)) e
  simp at this
theorem td_ne {a : Array Value} {b : Array DictEntry} {n m : Nat} (e : some (TObj a n) = some (DObj b m)) : False := by
  have := congrArg (fun o : Option Obj => o.map (·.cls)) e
  simp at this
theorem ld_ne {a : Array Value} {b : Array DictEntry} {n m : Nat} (e : some (LObj a n) = some (DObj b m)) : False := by
  have := congrArg (fun o : Option Obj => o.map (·.cls)) e
  simp at this
theorem rd_tup {w : World} {h : Heap} {B : Addr → Prop} {a : Addr} {vs : Array Value} {n : Nat} {y : PyData} (r : Rd w h B (.ref a) y) (e : h.get? a = some (TObj vs n)) : ∃ xs, y = .tuple xs ∧ RdAll w h B vs.toList xs := by
  cases r with
  | tuple e' _ r => cases e.symm.trans e'; exact ⟨_, rfl, r⟩
  | list e' _ r => exact (tl_ne (e.symm.trans e')).elim
  | dict e' _ _ _ r => exact (td_ne (e.symm.trans e')).elim
theorem rd_lst {w : World} {h : Heap} {B : Addr → Prop} {a : Addr} {vs : Array Value} {n : Nat} {y : PyData} (r : Rd w h B (.ref a) y) (e : h.get? a = some (LObj vs n)) : ∃ xs, y = .list xs ∧ RdAll w h B vs.toList xs := by
  cases r with
  | tuple e' _ r => exact (tl_ne (e'.symm.trans e)).elim
  | list e' _ r => cases e.symm.trans e'; exact ⟨_, rfl, r⟩
  | dict e' _ _ _ r => exact (ld_ne (e.symm.trans e')).elim
theorem rd_dic {w : World} {h : Heap} {B : Addr → Prop} {a : Addr} {es : Array DictEntry} {n : Nat} {y : PyData} (r : Rd w h B (.ref a) y) (e : h.get? a = some (DObj es n)) : ∃ xs, y = .dict xs ∧ RdEnts w h B es.toList xs := by
  cases r with
  | tuple e' _ r => exact (td_ne (e'.symm.trans e)).elim
  | list e' _ r => exact (ld_ne (e'.symm.trans e)).elim
  | dict e' _ _ _ r => cases e.symm.trans e'; exact ⟨_, rfl, r⟩
theorem Rd.det {w : World} {h : Heap} {B B' : Addr → Prop} {v : Value} {x y : PyData} (r : Rd w h B v x) (q : Rd w h B' v y) : x = y :=
  (Rd.ind3 (P := fun v x => ∀ y, Rd w h B' v y → x = y) (P2 := fun v x => ∀ y, RdAll w h B' v y → x = y) (P3 := fun v x => ∀ y, RdEnts w h B' v y → x = y)
    (fun _ r => by cases r; rfl) (fun _ _ r => by cases r; rfl) (fun _ _ _ r => by cases r; rfl) (fun _ _ _ r => by cases r; rfl)
    (fun e _ q _ r => have ⟨_, z, r⟩ := rd_tup r e; z ▸ congrArg _ (q _ r)) (fun e _ q _ r => have ⟨_, z, r⟩ := rd_lst r e; z ▸ congrArg _ (q _ r)) (fun e _ _ _ q _ r => have ⟨_, z, r⟩ := rd_dic r e; z ▸ congrArg _ (q _ r))
    (fun _ r => by cases r; rfl) (fun p q _ r => by cases r with | cons a b => rw [p _ a, q _ b])
    (fun _ r => by cases r; rfl) (fun _ p1 p2 q _ r => by cases r with | cons _ a b c => rw [p1 _ a, p2 _ b, q _ c])).1 r y q
theorem Rd.off3 {w : World} {h : Heap} {B : Addr → Prop} {a : Addr} {x : PyData} (ra : Rd w h B (.ref a) x) : (∀ {v y}, Rd w h B v y → Rd w h B v y ∧ (sizeOf y < sizeOf x → Rd w h (fun b => B b ∨ b = a) v y)) ∧ (∀ {v y}, RdAll w h B v y → RdAll w h B v y ∧ (sizeOf y < sizeOf x → RdAll w h (fun b => B b ∨ b = a) v y)) ∧ (∀ {v y}, RdEnts w h B v y → RdEnts w h B v y ∧ (sizeOf y < sizeOf x → RdEnts w h (fun b => B b ∨ b = a) v y)) :=
  have no : ∀ {b y}, ¬ B b → Rd w h B (.ref b) y → sizeOf y < sizeOf x → ¬ (B b ∨ b = a) := fun n r hs q => q.elim n fun q => by subst q; rw [Rd.det ra r] at hs; exact Nat.lt_irrefl _ hs
  have lt : ∀ {k : Nat}, 1 + k < sizeOf x → k < sizeOf x := fun {k} q => Nat.lt_of_le_of_lt (Nat.le_add_left k 1) q
  have l1 : ∀ {k m : Nat}, 1 + k + m < sizeOf x → k < sizeOf x ∧ m < sizeOf x := fun q => ⟨by omega, by omega⟩
  Rd.ind3 ⟨.none, fun _ => .none⟩ (fun b => ⟨.bool b, fun _ => .bool b⟩) (fun i t => ⟨.int i t, fun _ => .int i t⟩) (fun i t => ⟨.str i t, fun _ => .str i t⟩)
    (fun e n r => ⟨.tuple e n r.1, fun hs => .tuple e (no n (.tuple e n r.1) hs) (r.2 (lt (PyData.tuple.sizeOf_spec _ ▸ hs)))⟩) (fun e n r => ⟨.list e n r.1, fun hs => .list e (no n (.list e n r.1) hs) (r.2 (lt (PyData.list.sizeOf_spec _ ▸ hs)))⟩)
    (fun e n s d r => ⟨.dict e n s d r.1, fun hs => .dict e (no n (.dict e n s d r.1) hs) s d (r.2 (lt (PyData.dict.sizeOf_spec _ ▸ hs)))⟩)
    ⟨.nil, fun _ => .nil⟩ (fun p q => ⟨.cons p.1 q.1, fun hs => .cons (p.2 (l1 hs).1) (q.2 (l1 hs).2)⟩)
    ⟨.nil, fun _ => .nil⟩ (fun e p q r => ⟨.cons e p.1 q.1 r.1, fun hs => .cons e (p.2 (l1 (l1 hs).1).1) (q.2 (l1 (l1 hs).1).2) (r.2 (l1 hs).2)⟩)
theorem Rd.topOff {w : World} {h : Heap} {B : Addr → Prop} {a : Addr} {x : PyData} (ra : Rd w h B (.ref a) x) (hx : (∃ l, x = .list l) ∨ (∃ l, x = .dict l)) : RdTop w h (fun b => B b ∨ b = a) a x := by
  cases ra with
  | tuple e n r => rcases hx with ⟨_, z⟩ | ⟨_, z⟩ <;> cases z
  | list e n r => exact .list e ((Rd.off3 (.list e n r)).2.1 r |>.2 (by rw [PyData.list.sizeOf_spec]; omega))
  | dict e n sn nd r => exact .dict e sn nd ((Rd.off3 (.dict e n sn nd r)).2.2 r |>.2 (by rw [PyData.dict.sizeOf_spec]; omega))
end
end Mine
namespace Mine
open PySem PySem.W PySem.Calls PyProof.Rows

noncomputable def ownable : PyData → Bool
  | .list _ => true
  | .dict _ => true
  | _ => false
noncomputable def AV.put (av : AV) (st : St) : Option (Slot × St) := match av with
  | .dat x f => some (if f && ownable x then .own x else .sh x, st)
  | av => (av.share st).map fun p => (.sh p.1, p.2)
noncomputable def Slot.canPut : Slot → Bool
  | .lent _ => false
  | .tape => false
  | _ => true
noncomputable def putSlot (i : Nat) (sl : Slot) (st : St) : Option St := match st.ρ[i]? with
  | some old => if old.canPut then some ⟨st.ρ.set i sl, st.ts⟩ else none
  | none => none

section
variable {G : GC} {c : FC} {st st0 st1 st2 st3 st' : St} {vs : Nat → Value} {s s0 s1 s' : Shared} {v : Value} {av : AV} {x : PyData} {sc : Scope} {vars : List Str} {n : Nat} {A : Around}

theorem SlotR.mono {w : World} {h : Heap} {B B' : Addr → Prop} {sl : Slot} {v : Value} (z : SlotR w h B c sl v) (k : ∀ b, B' b → B b) : SlotR w h B' c sl v := by
  have km : ∀ b o, h.get? b = some o → ¬ B b → h.get? b = some o ∧ ¬ B' b := fun b o e nb => ⟨e, fun q => nb (k b q)⟩
  unfold SlotR at z ⊢
  cases sl with
  | unset => trivial
  | sh y => exact z.mono km
  | own y => obtain ⟨a, e, t, f1, f2⟩ := z; exact ⟨a, e, t.mono km fun o q => q, f1, f2⟩
  | lent y => obtain ⟨a, e, t, f1, f2⟩ := z; exact ⟨a, e, t.mono km fun o q => q, f1, f2⟩
  | tape => exact z

theorem setLt {ρ : List Slot} {i : Nat} {sl : Slot} (h : ρ[i]? = some sl) : i < ρ.length := (List.getElem?_eq_some_iff.mp h).1

theorem set_other {ρ : List Slot} {i j : Nat} {sl sj : Slot} (h : (ρ.set i sl)[j]? = some sj) (n : j ≠ i) : ρ[j]? = some sj := by
  rwa [List.getElem?_set_ne (Ne.symm n)] at h
theorem set_self {ρ : List Slot} {i : Nat} {sl sj : Slot} (h : (ρ.set i sl)[i]? = some sj) : sj = sl := by
  have hl : i < (ρ.set i sl).length := (List.getElem?_eq_some_iff.mp h).1
  rw [List.getElem?_set_self (by simpa using hl)] at h
  exact (Option.some.inj h).symm

theorem ban_set_sh {ρ : List Slot} {i : Nat} {b : Addr} (h : c.Ban (ρ.set i (.sh x)) (upd vs i v) b) : c.Ban ρ vs b := by
  rcases h with h | h | h | ⟨j, sl, y, h1, h2, h3⟩
  · exact .inl h
  · exact .inr (.inl h)
  · exact .inr (.inr (.inl h))
  · by_cases q : j = i
    · subst q; cases set_self h1; simp [Slot.owned] at h2
    · exact .inr (.inr (.inr ⟨j, sl, y, set_other h1 q, h2, by rwa [upd_ne _ _ q] at h3⟩))
theorem banM_set_sh {ρ : List Slot} {i : Nat} {b : Addr} (h : c.BanM (ρ.set i (.sh x)) (upd vs i v) b) : c.BanM ρ vs b := by
  rcases h with h | h | h | ⟨j, y, h1, h3⟩
  · exact .inl h
  · exact .inr (.inl h)
  · exact .inr (.inr (.inl h))
  · by_cases q : j = i
    · subst q; cases set_self h1
    · exact .inr (.inr (.inr ⟨j, y, set_other h1 q, by rwa [upd_ne _ _ q] at h3⟩))
theorem ban_set_own {ρ : List Slot} {i : Nat} {b a : Addr} (h : c.Ban (ρ.set i (.own x)) (upd vs i (.ref a)) b) : c.Ban ρ vs b ∨ b = a := by
  rcases h with h | h | h | ⟨j, sl, y, h1, h2, h3⟩
  · exact .inl (.inl h)
  · exact .inl (.inr (.inl h))
  · exact .inl (.inr (.inr (.inl h)))
  · by_cases q : j = i
    · subst q; rw [upd_same] at h3; cases h3; exact .inr rfl
    · exact .inl (.inr (.inr (.inr ⟨j, sl, y, set_other h1 q, h2, by rwa [upd_ne _ _ q] at h3⟩)))
theorem banM_set_own {ρ : List Slot} {i : Nat} {b a : Addr} (h : c.BanM (ρ.set i (.own x)) (upd vs i (.ref a)) b) : c.BanM ρ vs b ∨ b = a := by
  rcases h with h | h | h | ⟨j, y, h1, h3⟩
  · exact .inl (.inl h)
  · exact .inl (.inr (.inl h))
  · exact .inl (.inr (.inr (.inl h)))
  · by_cases q : j = i
    · subst q; rw [upd_same] at h3; cases h3; exact .inr rfl
    · exact .inl (.inr (.inr (.inr ⟨j, y, set_other h1 q, by rwa [upd_ne _ _ q] at h3⟩)))

theorem Shares.banM (z : Shares st.ρ st0.ρ) {b : Addr} (h : c.BanM st.ρ vs b) : c.BanM st0.ρ vs b := by
  rcases h with h | h | h | ⟨i, y, h1, h3⟩
  · exact .inl h
  · exact .inr (.inl h)
  · exact .inr (.inr (.inl h))
  · have hi : i < st0.ρ.length := by rw [← z.1]; exact setLt h1
    obtain ⟨s1, e1, h4⟩ := z.2 i st0.ρ[i] (List.getElem?_eq_getElem hi)
    rw [h1] at e1
    cases e1
    rcases h4 with h4 | ⟨_, _, h5⟩
    · exact .inr (.inr (.inr ⟨i, y, by rw [List.getElem?_eq_getElem hi, h4], h3⟩))
    · cases h5

theorem get_back (ok : c.Ok G) (k : KeepBut c.τ s0.heap s.heap) (r : SR G c st vs s) : ∀ d o, s0.heap.get? d = some o → ∃ o', s.heap.get? d = some o' := by
  intro d o e
  by_cases q : d = c.τ
  · subst q; obtain ⟨_, _, h⟩ := r.tauAt; exact ⟨_, h⟩
  · exact ⟨o, k d o q e⟩
theorem Kp.eval (ok : c.Ok G) (k : KeepBut c.τ s0.heap s.heap) (z : Shares st.ρ st0.ρ) (r : SR G c st vs s) : Kp c st0 vs s0 st vs s :=
  ⟨fun b o e nb => k b o (fun q => nb (.inr (.inr (.inl q)))) e, fun b o e h => z.banM h, fun b o e h => z.ban b h, get_back ok k r⟩
theorem live_store (r0 : SR G c st0 vs s0) (k : KeepBut c.τ s0.heap s.heap) {st3 : St} {vs' : Nat → Value} {s2 : Shared} (r3 : SR G c st3 vs' s2) (kw : ∀ b o, ¬ c.W b → s.heap.get? b = some o → s2.heap.get? b = some o) : ∀ d o, s0.heap.get? d = some o → ∃ o', s2.heap.get? d = some o' := by
  intro d o e
  by_cases q : d = c.τ
  · subst q; obtain ⟨_, _, h⟩ := r3.tauAt; exact ⟨_, h⟩
  · by_cases w : c.W d
    · exact r3.wIn d w
    · exact ⟨o, kw d o w (k d o q e)⟩
theorem Kp.trans {vs1 vs2 : Nat → Value} {s2 : Shared} (a : Kp c st0 vs s0 st1 vs1 s1) (b : Kp c st1 vs1 s1 st2 vs2 s2) : Kp c st0 vs s0 st2 vs2 s2 := by
  have ex := a.live
  refine ⟨fun d o e nb => ?_, fun d o e h => ?_, fun d o e h => ?_, fun d o e => let ⟨o', e'⟩ := a.live d o e; b.live d o' e'⟩
  · exact b.keep d o (a.keep d o e nb) fun q => nb (a.mM d o e q)
  · obtain ⟨o', e'⟩ := ex d o e
    exact a.mM d o e (b.mM d o' e' h)
  · obtain ⟨o', e'⟩ := ex d o e
    exact a.mB d o e (b.mB d o' e' h)
theorem Kp.refl : Kp c st vs s st vs s := ⟨fun _ _ e _ => e, fun _ _ _ h => h, fun _ _ _ h => h, fun _ o e => ⟨o, e⟩⟩

theorem banM_ban {ρ : List Slot} {b : Addr} (h : c.BanM ρ vs b) : c.Ban ρ vs b := by
  rcases h with h | h | h | ⟨i, y, h1, h3⟩
  · exact .inl h
  · exact .inr (.inl h)
  · exact .inr (.inr (.inl h))
  · exact .inr (.inr (.inr ⟨i, _, y, h1, rfl, h3⟩))

theorem SR.storeSh {nm : Str} {i : Nat} {old : Slot} (ok : c.Ok G) (hown : c.ownc = true ∨ c.env.kindOf nm = some .local) (r : SR G c st vs s) (hi : c.vars[i]? = some nm) (ho : st.ρ[i]? = some old)
    (rd : Rd G.w s.heap (c.Ban st.ρ vs) v x) {E : Value → Shared → Prop} {Q : Unit → Shared → Prop}
    (h : ∀ s2, SR G c ⟨st.ρ.set i (.sh x), st.ts⟩ (upd vs i v) s2 → (∀ b o, (¬ c.W b ∨ (c.env.kindOf nm = some .local ∧ b ≠ c.L)) → s.heap.get? b = some o → s2.heap.get? b = some o) → Q () s2) : wpAny G.M A (storeName c.env nm v) Q E s := by
  refine r.store ok hown hi (.sh x) (by simp) (fun j sl e => ?_) (fun a b sa sb p q hab ha hb h1 h2 => ?_) h
  · by_cases q : j = i
    · subst q
      cases set_self e
      rw [upd_same]
      exact rd.mono fun b o e nb => ⟨e, fun q => nb (ban_set_sh q)⟩
    · rw [upd_ne _ _ q]
      exact (r.slot j sl (set_other e q)).mono fun b q => ban_set_sh q
  · have na : a ≠ i := by rintro rfl; cases set_self ha; simp [Slot.owned] at h1
    have nb : b ≠ i := by rintro rfl; cases set_self hb; simp [Slot.owned] at h2
    rw [upd_ne _ _ na, upd_ne _ _ nb]
    exact r.uniq a b sa sb p q hab (set_other ha na) (set_other hb nb) h1 h2

theorem SR.offNew (ok : c.Ok G) (r0 : SR G c st0 vs s0) (r : SR G c st vs s) (k : KeepBut c.τ s0.heap s.heap) (z : Shares st.ρ st0.ρ) {a : Addr} (ha : s0.heap.get? a = none) {j : Nat} {sl : Slot} (e : st.ρ[j]? = some sl) :
    SlotR G.w s.heap (fun b => c.Ban st.ρ vs b ∨ b = a) c sl (vs j) ∧ ∀ x, sl.owned = some x → vs j ≠ .ref a := by
  have hj : j < st0.ρ.length := by rw [← z.1]; exact setLt e
  obtain ⟨s1, e1, h4⟩ := z.2 j st0.ρ[j] (List.getElem?_eq_getElem hj)
  rw [e] at e1
  cases e1
  have z0 := r0.slot j st0.ρ[j] (List.getElem?_eq_getElem hj)
  have z1 := r.slot j sl e
  have na : ∀ b o, s0.heap.get? b = some o → b ≠ a := fun b o e q => by rw [q, ha] at e; cases e
  have km : ∀ b o, s0.heap.get? b = some o → ¬ c.Ban st0.ρ vs b → s.heap.get? b = some o ∧ ¬ (c.Ban st.ρ vs b ∨ b = a) := fun b o e nb => ⟨k b o (ban_ne nb) e, fun q => q.elim (fun q => nb (z.ban b q)) (na b o e)⟩
  rcases h4 with h4 | ⟨y, h5, h6⟩
  · rw [← h4] at z0
    unfold SlotR at z0 z1 ⊢
    cases sl with
    | unset => exact ⟨trivial, fun x hx => by simp [Slot.owned] at hx⟩
    | tape => exact ⟨z1, fun x hx => by simp [Slot.owned] at hx⟩
    | sh y => exact ⟨z0.mono km, fun x hx => by simp [Slot.owned] at hx⟩
    | own y =>
      obtain ⟨b, e, t, f1, f2⟩ := z0
      refine ⟨⟨b, e, t.mono km fun o q => k b o (SR.own_ne ok f1) q, f1, f2⟩, fun x hx q => ?_⟩
      rw [e] at q
      cases q
      cases t with
      | list e' _ => exact na _ _ e' rfl
      | dict e' _ _ _ => exact na _ _ e' rfl
    | lent y =>
      obtain ⟨b, e, t, f1, f2⟩ := z0
      refine ⟨⟨b, e, t.mono km fun o q => k b o (SR.own_ne ok f1) q, f1, f2⟩, fun x hx q => ?_⟩
      rw [e] at q
      cases q
      cases t with
      | list e' _ => exact na _ _ e' rfl
      | dict e' _ _ _ => exact na _ _ e' rfl
  · subst h6
    rw [h5] at z0
    obtain ⟨b, eb, t, f1, f2⟩ := z0
    refine ⟨?_, fun x hx => by simp [Slot.owned] at hx⟩
    have z1' : Rd G.w s.heap (c.Ban st.ρ vs) (vs j) y := z1
    show Rd _ _ _ _ _
    rw [eb] at z1' ⊢
    have t' := t.mono (h' := s.heap) km (fun o q => k b o (SR.own_ne ok f1) q)
    refine t'.rd fun q => ?_
    rcases q with q | q
    · cases z1' with
      | list _ n _ => exact n q
      | dict _ n _ _ _ => exact n q
      | tuple _ n _ => exact n q
    · subst q
      cases t with
      | list e' _ => exact na _ _ e' rfl
      | dict e' _ _ _ => exact na _ _ e' rfl

theorem SR.storeOwn {nm : Str} {i : Nat} {a : Addr} (ok : c.Ok G) (hown : c.ownc = true ∨ c.env.kindOf nm = some .local) (r0 : SR G c st0 vs s0) (r : SR G c st vs s) (k : KeepBut c.τ s0.heap s.heap) (z : Shares st.ρ st0.ρ) (hi : c.vars[i]? = some nm)
    (rd : Rd G.w s.heap (c.Ban st.ρ vs) (.ref a) x) (hx : (∃ l, x = .list l) ∨ (∃ l, x = .dict l)) (ha : s0.heap.get? a = none) {E : Value → Shared → Prop} {Q : Unit → Shared → Prop}
    (h : ∀ s2, SR G c ⟨st.ρ.set i (.own x), st.ts⟩ (upd vs i (.ref a)) s2 → (∀ b o, (¬ c.W b ∨ (c.env.kindOf nm = some .local ∧ b ≠ c.L)) → s.heap.get? b = some o → s2.heap.get? b = some o) → Q () s2) : wpAny G.M A (storeName c.env nm (.ref a)) Q E s := by
  have nb : ¬ c.Ban st.ρ vs a := by cases rd with | list _ n _ => exact n | dict _ n _ _ _ => exact n | tuple _ n _ => exact n
  have hin : c.hin.get? a = none := by
    cases q : c.hin.get? a with
    | none => rfl
    | some o =>
      have := r0.keep a o (ban_ne nb) q
      rw [ha] at this; cases this
  refine r.store ok hown hi (.own x) (by simp) (fun j sl e => ?_) (fun p q sp sq xp xq hpq hp hq h1 h2 => ?_) h
  · by_cases q : j = i
    · subst q
      cases set_self e
      rw [upd_same]
      exact ⟨a, rfl, (rd.topOff hx).mono (fun b o e nb => ⟨e, fun q => nb (ban_set_own q)⟩) fun _ e => e, hin, fun q => nb (.inr (.inl q))⟩
    · rw [upd_ne _ _ q]
      exact (r0.offNew ok r k z ha (set_other e q)).1.mono fun b q => ban_set_own q
  · by_cases ep : p = i
    · subst ep
      have nq : q ≠ p := Ne.symm hpq
      rw [upd_same, upd_ne _ _ nq]
      exact fun e => (r0.offNew ok r k z ha (set_other hq nq)).2 _ h2 e.symm
    · by_cases eq : q = i
      · subst eq
        rw [upd_same, upd_ne _ _ ep]
        exact (r0.offNew ok r k z ha (set_other hp ep)).2 _ h1
      · rw [upd_ne _ _ ep, upd_ne _ _ eq]
        exact r.uniq p q sp sq xp xq hpq (set_other hp ep) (set_other hq eq) h1 h2

theorem put_sound {nm : Str} {i : Nat} {sl : Slot} (ok : c.Ok G) (hown : c.ownc = true ∨ c.env.kindOf nm = some .local) (r0 : SR G c st0 vs s0) (r : SR G c st vs s) (k : KeepBut c.τ s0.heap s.heap) (z : Shares st.ρ st0.ρ) (hi : c.vars[i]? = some nm)
    (vr : VR G.w c st.ρ vs s.heap v av) (fr : Fresh s0.heap v av) (hp : av.put st = some (sl, st2)) (h3 : putSlot i sl st2 = some st3) {E : Value → Shared → Prop} {Q : Unit → Shared → Prop}
    (h : ∀ s2 vs', SR G c st3 vs' s2 → Kp c st0 vs s0 st3 vs' s2 → (c.env.kindOf nm = some .local → ∀ b o, b ≠ c.L → s.heap.get? b = some o → s2.heap.get? b = some o) → Q () s2) : wpAny G.M A (storeName c.env nm v) Q E s := by
  have hst : ∃ old, st2.ρ[i]? = some old ∧ st3 = ⟨st2.ρ.set i sl, st2.ts⟩ := by
    unfold putSlot at h3
    cases e : st2.ρ[i]? with
    | none => rw [e] at h3; cases h3
    | some old =>
      rw [e] at h3
      simp only at h3
      split at h3
      · exact ⟨old, rfl, (Option.some.inj h3).symm⟩
      · cases h3
  obtain ⟨old, ho, rfl⟩ := hst
  -- the shared road
  have shared : ∀ {x}, sl = .sh x → SR G c st2 vs s → Shares st2.ρ st.ρ → Rd G.w s.heap (c.Ban st2.ρ vs) v x → wpAny G.M A (storeName c.env nm v) Q E s := by
    rintro x rfl r2 z2 rd
    refine r2.storeSh ok hown hi ho rd fun s2 r3 kw0 => h s2 _ r3 ?_ fun q b o nb e => kw0 b o (.inr ⟨q, nb⟩) e
    have kw : ∀ b o, ¬ c.W b → s.heap.get? b = some o → s2.heap.get? b = some o := fun b o nb e => kw0 b o (.inl nb) e
    refine ⟨fun b o e nb => ?_, fun b o e hb => ?_, fun b o e hb => ?_, live_store r0 k r3 kw⟩
    · exact kw b o (fun q => nb (.inr (.inl q))) (k b o (fun q => nb (.inr (.inr (.inl q)))) e)
    · exact z.banM (z2.banM (st := st2) (st0 := st) (banM_set_sh hb))
    · exact z.ban b (z2.ban b (ban_set_sh hb))
  cases av with
  | dat x f =>
    simp only [AV.put, Option.some.injEq, Prod.mk.injEq] at hp
    obtain ⟨e1, rfl⟩ := hp
    have rd : Rd G.w s.heap (c.Ban st.ρ vs) v x := vr
    by_cases q : (f && ownable x) = true
    · rw [if_pos q] at e1
      subst e1
      simp only [Bool.and_eq_true] at q
      obtain ⟨rfl, qx⟩ := q
      obtain ⟨a, rfl, ha⟩ := fr
      have hx : (∃ l, x = .list l) ∨ (∃ l, x = .dict l) := by
        cases x <;> simp [ownable] at qx
        · exact .inl ⟨_, rfl⟩
        · exact .inr ⟨_, rfl⟩
      refine r0.storeOwn ok hown r k z hi rd hx ha fun s2 r3 kw0 => h s2 _ r3 ?_ fun q b o nb e => kw0 b o (.inr ⟨q, nb⟩) e
      have kw : ∀ b o, ¬ c.W b → s.heap.get? b = some o → s2.heap.get? b = some o := fun b o nb e => kw0 b o (.inl nb) e
      have na : ∀ b o, s0.heap.get? b = some o → b ≠ a := fun b o e q => by rw [q, ha] at e; cases e
      refine ⟨fun b o e nb => ?_, fun b o e hb => ?_, fun b o e hb => ?_, live_store r0 k r3 kw⟩
      · exact kw b o (fun q => nb (.inr (.inl q))) (k b o (fun q => nb (.inr (.inr (.inl q)))) e)
      · rcases banM_set_own hb with q | q
        · exact z.banM q
        · exact absurd q (na b o e)
      · rcases ban_set_own hb with q | q
        · exact z.ban b q
        · exact absurd q (na b o e)
    · rw [if_neg q] at e1
      subst e1
      exact shared rfl r (.refl _) rd
  | var j =>
    simp only [AV.put] at hp
    obtain ⟨p, e1, e2⟩ := Option.map_eq_some_iff.mp hp
    cases e2
    obtain ⟨r2, z2, rd, _⟩ := share_sound ok r vr e1
    exact shared rfl r2 z2 rd
  | tape => simp [AV.put, AV.share] at hp

noncomputable def sAssign (i : Nat) (F : EF) : SF := fun st => (F st).bind fun av st1 => match av.put st1 with
  | some (sl, st2) => match putSlot i sl st2 with
    | some st3 => .ok .next st3
    | none => .stuck
  | none => .stuck

theorem SS_assign {nm : Str} {e : Expr} {p p2 : Pos} {F : EF} (i : Nat) (hi : vars[i]? = some nm) (h : SE G sc vars n e F) (hs : ∀ env, swapsWith e (some (.Name nm p)) p2.line env = pure false) :
    SS G sc vars n (.Assign [.Name nm p] e p2) (sAssign i F) := by
  intro c A st vs s hsc hv hown S r ns
  obtain ⟨o, eo⟩ : ∃ o, sAssign i F st = o := ⟨_, rfl⟩
  rw [eo] at ns ⊢
  refine wpAny_Assign_Name ?_ (hs _)
  refine h.use hsc hv S r eo ns fun av st1 v1 s1 ho q1 q2 q3 q4 q5 => ?_
  cases ep : av.put st1 with
  | none => rw [ep] at ho; exact absurd ho.symm ns
  | some p =>
    obtain ⟨sl, st2⟩ := p
    rw [ep] at ho
    simp only at ho
    cases es : putSlot i sl st2 with
    | none => rw [es] at ho; exact absurd ho.symm ns
    | some st3 =>
      rw [es] at ho
      simp only at ho
      subst ho
      exact put_sound S.ok (.inl hown) r q1 q2 q3 (by rw [hv]; exact hi) q4 q5 ep es fun s2 vs' r3 kp _ => ⟨rfl, vs', r3, kp⟩
end
end Mine
namespace Mine
open PySem PySem.W PySem.Calls PyProof.Rows

noncomputable def sNil : SF := fun st => .ok .next st
noncomputable def sSeq (F1 F2 : SF) : SF := fun st => (F1 st).bind fun r st1 => match r with
  | .next => F2 st1
  | .ret x f => .ok (.ret x f) st1
noncomputable def sIf (T : BF) (F1 F2 : SF) : SF := fun st => (T st).bind fun b st1 => match b with
  | true => F1 st1
  | false => F2 st1
noncomputable def retOf (av : AV) (st : St) : Option (PyData × Bool × St) := match av with
  | .dat x f => some (x, f, st)
  | .var i => match st.ρ[i]? with
    | some (.own x) => some (x, true, ⟨st.ρ.set i (.sh x), st.ts⟩)
    | some (.sh x) => some (x, false, st)
    | _ => none
  | .tape => none
noncomputable def sRet (F : EF) : SF := fun st => (F st).bind fun av st1 => match retOf av st1 with
  | some (x, f, st2) => .ok (.ret x f) st2
  | none => .stuck
noncomputable def sStuck : SF := fun _ => .stuck
noncomputable def sAug (i : Nat) (F : EF) : SF := fun st => match st.ρ[i]? with
  | some (.sh (.int a)) => (F st).bind fun av st1 => match av.data st1 with
    | some (.int b) => match putSlot i (.sh (.int (a + b))) st1 with
      | some st3 => .ok .next st3
      | none => .stuck
    | _ => .stuck
  | _ => .stuck
noncomputable def sSet (i : Nat) (Fk Fv : EF) : SF := fun st => (Fv st).bind fun av st1 => match st1.ρ[i]? with
  | some (.own (.dict _)) => (Fk st1).bind fun ak st2 => match av.share st2 with
    | some (x, st3) => match ak.share st3 with
      | some (k, st4) => match st4.ρ[i]? with
        | some (.own (.dict kvs)) => if keysOk k kvs && decide (kvs.length ≤ 9999) then .ok .next ⟨st4.ρ.set i (.own (.dict (dset k x kvs))), st4.ts⟩ else .stuck
        | _ => .stuck
      | none => .stuck
    | none => .stuck
  | _ => .stuck
noncomputable def sMeth (i : Nat) (op : List PyData → List PyData → Option (List PyData)) (Fs : List EF) : SF := fun st => match st.ρ[i]? with
  | some (.own (.list _)) => (evs Fs st).bind fun avs st1 => match shareAll avs st1 with
    | some (ds, st2) => match st2.ρ[i]? with
      | some (.own (.list xs)) => match op xs ds with
        | some xs' => .ok .next ⟨st2.ρ.set i (.own (.list xs')), st2.ts⟩
        | none => .stuck
      | _ => .stuck
    | none => .stuck
  | _ => .stuck

section
variable {G : GC} {c : FC} {st st0 st1 st2 st3 st' : St} {vs vs0 vs1 : Nat → Value} {s s0 s1 s' : Shared} {v : Value} {av : AV} {x : PyData} {sc : Scope} {vars : List Str} {n : Nat} {A : Around}

theorem QS.trans {o : Out SRes} {f : Flow} (z : QS G c st1 vs1 s1 o f s') (k : Kp c st vs s st1 vs1 s1) : QS G c st vs s o f s' := by
  cases o with
  | ok r st2 =>
    cases r with
    | next =>
      obtain ⟨h1, vs2, h2, h3⟩ := z
      exact ⟨h1, vs2, h2, k.trans h3⟩
    | ret y fr => exact z
  | raise => exact z
  | stuck => exact z

theorem SS.use {e : Stmt} {F : SF} (h : SS G sc vars n e F) (hsc : c.env.scope = sc) (hv : c.vars = vars) (hown : c.ownc = true) (S : Surr G c n A) (r : SR G c st vs s) {β : Type} {k : SRes → St → Out β} {o : Out β}
    (ho : (F st).bind k = o) (ns : o ≠ .stuck) {K : Flow → Shared → Prop}
    (next : ∀ res st1 f s1, k res st1 = o → QS G c st vs s (.ok res st1) f s1 → K f s1) :
    wpAny G.M A (exec e c.env) K (EE G c o) s := by
  refine wpAny_mono (h c A st vs s hsc hv hown S r ?_) (fun v s1 q => ?_) fun e s' q => ?_
  · intro z
    rw [z] at ho
    exact ns ho.symm
  · cases hf : F st with
    | ok av st1 =>
      rw [hf] at q ho
      exact next av st1 v s1 ho q
    | raise => rw [hf] at q; cases q
    | stuck => rw [hf] at q; cases q
  · obtain ⟨q1, q2⟩ := q
    rw [q1] at ho
    exact ⟨ho.symm, q2⟩

theorem SSs_nil : SSs G sc vars n [] sNil := fun c A st vs s hsc hv hown S r ns => wpAny_execs_nil ⟨rfl, vs, r, .refl⟩
theorem SSs_cons {e : Stmt} {es : List Stmt} {F1 F2 : SF} (h1 : SS G sc vars n e F1) (h2 : SSs G sc vars n es F2) : SSs G sc vars n (e :: es) (sSeq F1 F2) := by
  intro c A st vs s hsc hv hown S r ns
  obtain ⟨o, eo⟩ : ∃ o, sSeq F1 F2 st = o := ⟨_, rfl⟩
  rw [eo] at ns ⊢
  refine wpAny_execs_cons ?_
  refine h1.use hsc hv hown S r eo ns fun res st1 f s1 ho q => ?_
  cases res with
  | next =>
    obtain ⟨rfl, vs1, r1, k1⟩ := q
    have z := h2 c A st1 vs1 s1 hsc hv hown S r1 (by rw [show F2 st1 = o from ho]; exact ns)
    rw [show F2 st1 = o from ho] at z
    exact wpAny_mono z (fun f s2 q => q.trans k1) fun _ _ e => e
  | ret y fr =>
    subst ho
    obtain ⟨v, rfl, q2⟩ := q
    exact ⟨v, rfl, q2⟩
theorem SSs_stuck {e : List Stmt} : SSs G sc vars n e sStuck := fun c A st vs s hsc hv hown S r ns => absurd rfl ns

theorem SS_if {t : Expr} {b1 b2 : List Stmt} {p : Pos} {T : BF} {F1 F2 : SF} (ht : SB G sc vars n t T) (h1 : SSs G sc vars n b1 F1) (h2 : SSs G sc vars n b2 F2) : SS G sc vars n (.If t b1 b2 p) (sIf T F1 F2) := by
  intro c A st vs s hsc hv hown S r ns
  obtain ⟨o, eo⟩ : ∃ o, sIf T F1 F2 st = o := ⟨_, rfl⟩
  rw [eo] at ns ⊢
  refine wpAny_If ?_
  refine ht.use hsc hv S r eo ns fun bb st1 s1 ho q1 q2 q3 => ?_
  have fin : ∀ {b : List Stmt} {F : SF}, SSs G sc vars n b F → F st1 = o → wpAny G.M A (execs b c.env) (QS G c st vs s o) (EE G c o) s1 := fun {b F} h ho => by
    have z := h c A st1 vs s1 hsc hv hown S q1 (by rw [ho]; exact ns)
    rw [ho] at z
    exact wpAny_mono z (fun v s2 q => q.trans (.eval S.ok q2 q3 q1)) fun _ _ e => e
  cases bb with
  | true => rw [if_pos rfl]; exact fin h1 ho
  | false => rw [if_neg (by decide)]; exact fin h2 ho

theorem SR.retQ (ok : c.Ok G) (r : SR G c st vs s) {y : PyData} {fr : Bool} (rd : Rd G.w s.heap (c.Ban st.ρ vs) v y) (hf : fr = true → ∃ a, v = .ref a ∧ c.hin.get? a = none) : QS G c st0 vs0 s0 (.ok (.ret y fr) st) (.ret v) s :=
  ⟨v, rfl, r.tape, rd.mono fun b o e nb => ⟨e, fun q => nb (.inl q)⟩, hf, r.keep, r.frames, r.rest⟩

theorem hin_none (r : SR G c st vs s) {a : Addr} (h : s.heap.get? a = none) : c.hin.get? a = none := by
  cases q : c.hin.get? a with
  | none => rfl
  | some o =>
    by_cases e : a = c.τ
    · subst e; obtain ⟨_, _, t⟩ := r.tauAt; rw [h] at t; cases t
    · rw [r.keep a o e q] at h; cases h

theorem SS_ret {e : Expr} {p : Pos} {F : EF} (h : SE G sc vars n e F) : SS G sc vars n (.Return (some e) p) (sRet F) := by
  intro c A st vs s hsc hv hown S r ns
  obtain ⟨o, eo⟩ : ∃ o, sRet F st = o := ⟨_, rfl⟩
  rw [eo] at ns ⊢
  refine wpAny_Return_some ?_
  refine h.use hsc hv S r eo ns fun av st1 v1 s1 ho q1 q2 q3 q4 q5 => ?_
  cases er : retOf av st1 with
  | none => rw [er] at ho; exact absurd ho.symm ns
  | some p =>
    obtain ⟨y, fr, st2⟩ := p
    rw [er] at ho
    simp only at ho
    subst ho
    cases av with
    | dat z f =>
      simp only [retOf, Option.some.injEq, Prod.mk.injEq] at er
      obtain ⟨rfl, rfl, rfl⟩ := er
      refine q1.retQ S.ok q4 fun hf => ?_
      subst hf
      obtain ⟨a, e1, e2⟩ := q5
      exact ⟨a, e1, hin_none r e2⟩
    | var i =>
      obtain ⟨e1, sl, d, hs, hd⟩ := id q4
      simp only [retOf, hs] at er
      rcases hd with rfl | rfl
      · simp only [Option.some.injEq, Prod.mk.injEq] at er
        obtain ⟨rfl, rfl, rfl⟩ := er
        obtain ⟨r2, z2, rd, _⟩ := share_sound (x := d) (st' := ⟨st1.ρ.set i (.sh d), st1.ts⟩) S.ok q1 q4 (by simp [AV.share, hs])
        refine r2.retQ S.ok rd fun _ => ?_
        have z := q1.slot i _ hs
        obtain ⟨a, ea, _, f1, _⟩ := z
        exact ⟨a, by rw [e1, ea], f1⟩
      · simp only [Option.some.injEq, Prod.mk.injEq] at er
        obtain ⟨rfl, rfl, rfl⟩ := er
        obtain ⟨r2, z2, rd, _⟩ := share_sound (x := d) (st' := st1) S.ok q1 q4 (by simp [AV.share, hs])
        exact r2.retQ S.ok rd fun h => by cases h
    | tape => simp [retOf] at er

theorem SS_aug {nm : Str} {e : Expr} {p p2 : Pos} {F : EF} (i : Nat) (hi : vars[i]? = some nm) (h : SE G sc vars n e F) : SS G sc vars n (.AugAssign (.Name nm p) .Add e p2) (sAug i F) := by
  intro c A st vs s hsc hv hown S r ns
  obtain ⟨o, eo⟩ : ∃ o, sAug i F st = o := ⟨_, rfl⟩
  rw [eo] at ns ⊢
  unfold sAug at eo
  cases es : st.ρ[i]? with
  | none => rw [es] at eo; exact absurd eo.symm ns
  | some sl =>
    rw [es] at eo
    have hi' : c.vars[i]? = some nm := by rw [hv]; exact hi
    have va := r.var i nm sl hi' es
    have z := r.slot i sl es
    split at eo
    · rename_i a hsl
      cases hsl
      have z' : Rd G.w s.heap (c.Ban st.ρ vs) (vs i) (.int a) := z
      have ⟨t, ev⟩ : ∃ t, vs i = .int a t := by
        generalize vs i = v0 at z'
        cases z'; exact ⟨_, rfl⟩
      refine wpAny_AugAssign_Name (load_var S.ok.kind va ?_)
      refine h.use hsc hv S r eo ns fun av st1 v1 s1 ho q1 q2 q3 q4 q5 => ?_
      cases ea : av.data st1 with
      | none => rw [ea] at ho; exact absurd ho.symm ns
      | some xb =>
        have rv := q4.readV q1 ea
        rw [ea] at ho
        cases xb <;> first | exact absurd ho.symm ns | skip
        rename_i b
        obtain ⟨u, rfl⟩ := rv.int_inv
        simp only at ho
        cases ep : putSlot i (.sh (.int (a + b))) st1 with
        | none => rw [ep] at ho; exact absurd ho.symm ns
        | some st3 =>
          rw [ep] at ho
          simp only at ho
          subst ho
          rw [ev]
          refine P.iadd_int ?_
          have q1' : SR G c st1 vs { s1 with toks := s1.toks + 1 } := q1.keepAll S.ok (KeepAll.refl _) ⟨rfl, rfl, rfl⟩
          exact put_sound (av := .dat (.int (a + b)) false) S.ok (.inl hown) r q1' q2 q3 hi' (.int _ _) trivial rfl ep fun s2 vs' r3 kp _ => ⟨rfl, vs', r3, kp⟩
    · exact absurd eo.symm ns

theorem SR.setOwn {i : Nat} {a : Addr} {x' : PyData} {h' : Heap} {tk : Nat} (ok : c.Ok G) (r : SR G c st vs s) (hi : st.ρ[i]? = some (.own x)) (ha : vs i = .ref a) (sm : ∀ b, b ≠ a → h'.get? b = s.heap.get? b) (t : RdTop G.w h' (c.Ban st.ρ vs) a x') :
    SR G c ⟨st.ρ.set i (.own x'), st.ts⟩ vs { s with heap := h', toks := tk } ∧ Kp c st vs s ⟨st.ρ.set i (.own x'), st.ts⟩ vs { s with heap := h', toks := tk } := by
  have hil := setLt hi
  obtain ⟨a', ea, t0, f1, f2⟩ := r.slot i _ hi
  rw [ha] at ea; cases ea
  have hobj : ∃ o, s.heap.get? a = some o ∧ ((∃ l n, o = LObj l n) ∨ (∃ l n, o = DObj l n)) := by
    cases t0 with
    | list e _ => exact ⟨_, e, .inl ⟨_, _, rfl⟩⟩
    | dict e _ _ _ => exact ⟨_, e, .inr ⟨_, _, rfl⟩⟩
  obtain ⟨o0, eo0, hty⟩ := hobj
  have hobj' : ∃ o, h'.get? a = some o ∧ ∀ fs, o.data ≠ .fields fs := by
    cases t with
    | list e _ => exact ⟨_, e, fun fs z => by cases z⟩
    | dict e _ _ _ => exact ⟨_, e, fun fs z => by cases z⟩
  obtain ⟨o1, eo1, nf1⟩ := hobj'
  have banA : c.Ban st.ρ vs a := .inr (.inr (.inr ⟨i, _, x, hi, rfl, ha⟩))
  have ban1 : ∀ b, c.Ban (st.ρ.set i (.own x')) vs b → c.Ban st.ρ vs b := by
    intro b hb
    rcases hb with h | h | h | ⟨j, sl, y, h1, h2, h3⟩
    · exact .inl h
    · exact .inr (.inl h)
    · exact .inr (.inr (.inl h))
    · by_cases q : j = i
      · subst q; rw [ha] at h3; cases h3; exact banA
      · exact .inr (.inr (.inr ⟨j, sl, y, set_other h1 q, h2, h3⟩))
  have banM1 : ∀ b, c.BanM (st.ρ.set i (.own x')) vs b → c.BanM st.ρ vs b := by
    intro b hb
    rcases hb with h | h | h | ⟨j, y, h1, h3⟩
    · exact .inl h
    · exact .inr (.inl h)
    · exact .inr (.inr (.inl h))
    · by_cases q : j = i
      · subst q; exact .inr (.inr (.inr ⟨j, x, hi, h3⟩))
      · exact .inr (.inr (.inr ⟨j, y, set_other h1 q, h3⟩))
  have ne_a : ∀ b, ¬ c.Ban st.ρ vs b → b ≠ a := fun b nb q => nb (q ▸ banA)
  have km : ∀ b o, s.heap.get? b = some o → ¬ c.Ban st.ρ vs b → h'.get? b = some o ∧ ¬ c.Ban (st.ρ.set i (.own x')) vs b := fun b o e nb => ⟨(sm b (ne_a b nb)).trans e, fun q => nb (ban1 b q)⟩
  have aτ : c.τ ≠ a := Ne.symm (SR.own_ne ok f1)
  have live : ∀ b o, s.heap.get? b = some o → ∃ o', h'.get? b = some o' := fun b o e => by
    by_cases q : b = a
    · subst q; exact ⟨_, eo1⟩
    · exact ⟨o, (sm b q).trans e⟩
  have notNs : ∀ b o, s.heap.get? b = some o → (o.cls ≠ .type "list" ∧ o.cls ≠ .type "dict") → b ≠ a := by
    intro b o e hc q
    subst q
    rw [eo0] at e
    cases e
    rcases hty with ⟨l, k, rfl⟩ | ⟨l, k, rfl⟩
    · exact hc.1 rfl
    · exact hc.2 rfl
  refine ⟨⟨by simpa using r.len, fun j n2 sl h1 h2 => ?_, fun j sl h => ?_, fun p q sp sq xp xq hpq hp hq h1 h2 => ?_, ?_, fun b o nb e => ?_, ?_, r.rest, fun b hb => ?_, ?_⟩, ?_⟩
  · have vj : VarAt s.heap c.env n2 (sl.ov (vs j)) := by
      by_cases q : j = i
      · subst q
        cases set_self h2
        exact (r.var j n2 _ h1 hi : VarAt _ _ _ (some _))
      · exact r.var j n2 sl h1 (set_other h2 q)
    unfold VarAt at vj ⊢
    split at vj
    · obtain ⟨m, hn, hm⟩ := vj
      obtain ⟨o, es, ep, ho, rr⟩ := hn
      exact ⟨m, ⟨o, es, ep, (sm _ (fun q => f2 (q ▸ (by rw [ok.locals]; exact ok.WL)))).trans ho, rr⟩, hm⟩
    · obtain ⟨ca, h1, oc, h2, h3⟩ := vj
      refine ⟨ca, h1, oc, (sm ca fun q => ?_).trans h2, h3⟩
      subst q
      rw [eo0] at h2
      cases h2
      rcases hty with ⟨l, k, rfl⟩ | ⟨l, k, rfl⟩ <;> cases h3
    · exact vj
  · by_cases q : j = i
    · subst q
      cases set_self h
      exact ⟨a, ha, t.mono (fun b o e nb => ⟨e, fun q => nb (ban1 b q)⟩) fun _ e => e, f1, f2⟩
    · have z := r.slot j sl (set_other h q)
      have hne : ∀ y, sl.owned = some y → vs j ≠ .ref a := fun y hy e => r.uniq j i sl _ y x q (set_other h q) hi hy rfl (e.trans ha.symm)
      unfold SlotR at z ⊢
      cases sl with
      | unset => trivial
      | sh y => exact z.mono km
      | tape => exact z
      | own y =>
        obtain ⟨b, e, t, g1, g2⟩ := z
        exact ⟨b, e, t.mono km fun o q => (sm b fun q => hne y rfl (q ▸ e)).trans q, g1, g2⟩
      | lent y =>
        obtain ⟨b, e, t, g1, g2⟩ := z
        exact ⟨b, e, t.mono km fun o q => (sm b fun q => hne y rfl (q ▸ e)).trans q, g1, g2⟩
  · by_cases ep : p = i
    · subst ep
      cases set_self hp
      exact r.uniq p q _ sq x xq hpq hi (set_other hq (Ne.symm hpq)) rfl h2
    · by_cases eq : q = i
      · subst eq
        cases set_self hq
        exact r.uniq p q sp _ xp x hpq (set_other hp ep) hi h1 rfl
      · exact r.uniq p q sp sq xp xq hpq (set_other hp ep) (set_other hq eq) h1 h2
  · obtain ⟨tv, tn, te, ti⟩ := r.tape
    exact ⟨tv, tn, (sm _ aτ).trans te, ti⟩
  · exact (sm b fun q => by subst q; rw [f1] at e; cases e).trans (r.keep b o nb e)
  · refine funFrames_nf (fun b ob e nf => ?_) r.frames
    by_cases q : b = a
    · subst q; exact ⟨o1, eo1, nf1⟩
    · exact ⟨ob, (sm b q).trans e, nf⟩
  · obtain ⟨o, e⟩ := r.wIn b hb
    exact live b o e
  · obtain ⟨m, o, es, ep, ho, hr⟩ := r.nsL
    exact ⟨m, o, es, ep, (sm _ (fun q => f2 (q ▸ ok.WL))).trans ho, hr⟩
  · exact ⟨fun b o e nb => (sm b fun q => nb (.inr (.inr (.inr ⟨i, x, hi, q ▸ ha⟩)))).trans e, fun b o _ h => banM1 b h, fun b o _ h => ban1 b h, live⟩
end
end Mine
namespace Mine
open PySem PySem.W PySem.Calls PyProof.Rows

section
open PySem.MeetsSeq PySem.SeqAt PySem.AutoSeq1
theorem remove_loopAt (l : Addr) (items : Array Value) (n : Nat) (x : Value) (e : Value → Bool) (j : Nat) (hj : j < items.size) (hit : e items[j] = true) (k : Nat) (hs1 : items.size ≤ sizeLine) :
    ∀ i : Nat, j - i = k → i ≤ j → (∀ m (hm : m < items.size), i ≤ m → m < j → e items[m] = false) → Meets (Builtin.«list.remove.loop» ⟨[.ref l, x, rawInt i], []⟩)
      (fun A R s => s.heap.get? l = some { cls := .type "list", dict := none, data := .seq items n, slots := #[] } ∧ (∀ y, y ∈ items → SeqAt.EqAt A.in1 s y x (e y)) ∧ R (.ok (.ret .none)) { s with heap := s.heap.update l (Obj.mapSeq fun xs => xs.eraseIdxIfInBounds j) }) := by
  induction k with
  | zero =>
    intro i hk hij hno prog w A R s h
    obtain ⟨hp, g, d, tk, os⟩ := s; obtain ⟨hl, he, h⟩ := h
    have hij' : i = j := by omega
    refine hide fun b_ hb_ => ?_
    subst hij'
    refine hb_ ?_
    wp_walk using wpAny_loadPart' hl
    have hi : items[((i : Nat) : Int).toNat]? = some items[i] := by simp [hj]
    rw [hi]
    refine wpAny_bind (he _ (Array.getElem_mem hj) prog w _ _ ?_)
    rw [hit]
    have hz' : (items.eraseIdxIfInBounds i).size ≤ sizeLine + 1 := Nat.le_trans (size_erased items _) (Nat.le_succ_of_le hs1)
    wp_walk using (wpAny_updateSeq hl rfl (hz := hs1) (_hz' := hz')), wpAny_loadPart' hl
    simpa using h
  | succ k ih =>
    intro i hk hij hno prog w A R s h
    obtain ⟨hp, g, d, tk, os⟩ := s; obtain ⟨hl, he, h⟩ := h
    have hlt : i < items.size := by omega
    wp_walk using wpAny_loadPart' hl
    have hi : items[((i : Nat) : Int).toNat]? = some items[i] := by simp [hlt]
    have hc : ((i : Int) + 1) = ((i + 1 : Nat) : Int) := by push_cast; rfl
    rw [hi]
    refine wpAny_bind (he _ (Array.getElem_mem hlt) prog w _ _ ?_)
    rw [hno i hlt (Nat.le_refl _) (by omega)]
    wp_walk
    rw [hc]
    exact ⟨plainId_quiet plain_remove_loop _, codeAny_builtin entry_remove_loop (by
      rw [Around.under_plainId plain_remove_loop _]
      exact ih (i + 1) (by omega) (by omega) (fun m hm h1 h2 => hno m hm (by omega) h2) prog w A R _ ⟨hl, he, h⟩)⟩
theorem list_removeAt (l : Addr) (items : Array Value) (n : Nat) (x : Value) (e : Value → Bool) (j : Nat) (hj : j < items.size)
    (hit : e items[j] = true) (hno : ∀ m (hm : m < items.size), m < j → e items[m] = false) (hs1 : items.size ≤ sizeLine) :
    Meets (Builtin.«list.remove» ⟨[.ref l, x], []⟩)
      (fun A R s => s.heap.get? l = some { cls := .type "list", dict := none, data := .seq items n, slots := #[] } ∧ (∀ y, y ∈ items → SeqAt.EqAt A.in1 s y x (e y)) ∧ R (.ok (.ret .none)) { s with heap := s.heap.update l (Obj.mapSeq fun xs => xs.eraseIdxIfInBounds j) }) := by
  intro prog w A R s h
  obtain ⟨hp, g, d, tk, os⟩ := s; obtain ⟨hl, he, h⟩ := h
  wp_walk using wpAny_loadPart' hl
  exact ⟨plainId_quiet plain_remove_loop _, codeAny_builtin entry_remove_loop (by
    rw [Around.under_plainId plain_remove_loop _]
    exact remove_loopAt l items n x e j hj hit _ hs1 0 rfl (Nat.zero_le _) (fun m hm _ h2 => hno m hm h2) prog w A R _ ⟨hl, he, h⟩)⟩
end

noncomputable def appendD (xs ds : List PyData) : Option (List PyData) := match ds with
  | [d] => if xs.length ≤ 9999 then some (xs ++ [d]) else none
  | _ => none
noncomputable def insertD (xs ds : List PyData) : Option (List PyData) := match ds with
  | [.int i, d] => if xs.length ≤ 9999 ∧ 0 ≤ i ∧ i ≤ xs.length then some (xs.take i.toNat ++ d :: xs.drop i.toNat) else none
  | _ => none
noncomputable def removeD (xs ds : List PyData) : Option (List PyData) := match ds with
  | [d] => if xs.length ≤ 10000 ∧ okD (.list xs) = true ∧ okD d = true then (xs.findIdx? fun y => PyData.eqv y d).map fun j => xs.eraseIdx j else none
  | _ => none
noncomputable def reverseD (xs ds : List PyData) : Option (List PyData) := match ds with
  | [] => if xs.length ≤ 10000 then some xs.reverse else none
  | _ => none

noncomputable def MethOk (G : GC) (id : String) (op : List PyData → List PyData → Option (List PyData)) : Prop :=
  ∀ (A : Around) (s : Shared) (B : Addr → Prop) (a : Addr) (items : Array Value) (n : Nat) (xs : List PyData) (vals : List Value) (ds xs' : List PyData) (E : Value → Shared → Prop) (Q : Value → Shared → Prop),
    A.units + 20 < cLine → B a → s.heap.get? a = some (LObj items n) → RdAll G.w s.heap B items.toList xs → RdAll G.w s.heap B vals ds → op xs ds = some xs' →
    (∀ h', (∀ b, b ≠ a → h'.get? b = s.heap.get? b) → RdTop G.w h' B a (.list xs') → Q .none { s with heap := h' }) → wpAny G.M A (call (.builtin id) (.ref a :: vals)) Q E s

section
variable {G : GC} {c : FC} {st st0 st1 st2 st3 st' : St} {vs vs0 vs1 : Nat → Value} {s s0 s1 s' : Shared} {v : Value} {av : AV} {x : PyData} {sc : Scope} {vars : List Str} {n : Nat} {A : Around}

theorem upd_top {h : Heap} {w : World} {B : Addr → Prop} {a : Addr} {items : Array Value} {n : Nat} {f : Array Value → Array Value} {xs' : List PyData} (e : h.get? a = some (LObj items n)) (bd : B a) (r : RdAll w h B (f items).toList xs') :
    (∀ b, b ≠ a → (h.update a (Obj.mapSeq f)).get? b = h.get? b) ∧ RdTop w (h.update a (Obj.mapSeq f)) B a (.list xs') := by
  have sm : ∀ b, b ≠ a → (h.update a (Obj.mapSeq f)).get? b = h.get? b := fun b q => Heap.get?_update_other _ _ (Ne.symm q)
  refine ⟨sm, .list (vs := f items) (IsL.update e f) (r.mono' bd sm)⟩

theorem append_ok : MethOk G "list.append" appendD := by
  intro A s B a items n xs vals ds xs' E Q hu bd e r rv ho hq
  cases rv with
  | nil => cases ho
  | cons r1 r2 =>
    cases r2 with
    | cons _ _ => simp [appendD] at ho
    | nil =>
      simp only [appendD] at ho
      split at ho
      · rename_i hl
        cases ho
        have l := r.length; simp only [Array.length_toList] at l
        obtain ⟨h1, h2⟩ := upd_top (f := fun x => x.push _) e bd (by simpa using r.append (.cons r1 .nil))
        exact call_meets F.slot_list_append ⟨_, e, rfl⟩ F.entry_list_append (F.args_list_append_2 _ _) (list_append a items n _ (sizeLine_le (by omega))) ⟨e, hq _ h1 h2⟩
      · cases ho
theorem reverse_ok : MethOk G "list.reverse" reverseD := by
  intro A s B a items n xs vals ds xs' E Q hu bd e r rv ho hq
  cases rv with
  | cons _ _ => cases ho
  | nil =>
    simp only [reverseD] at ho
    split at ho
    · rename_i hl
      cases ho
      have l := r.length; simp only [Array.length_toList] at l
      obtain ⟨h1, h2⟩ := upd_top (f := fun x => x.reverse) e bd (by simpa using r.reverse)
      exact call_meets F.slot_list_reverse ⟨_, e, rfl⟩ F.entry_list_reverse (F.args_list_reverse_1 _) (AutoSeq1.list_reverse_list_0 a items n (sizeLine_le (by omega))) ⟨e, hq _ h1 h2⟩
    · cases ho
theorem insert_ok : MethOk G "list.insert" insertD := by
  intro A s B a items n xs vals ds xs' E Q hu bd e r rv ho hq
  unfold insertD at ho
  split at ho
  · rename_i i d
    split at ho
    · rename_i hl
      cases ho
      cases rv with
      | @cons v1 _ _ _ r1 r2 =>
        cases r2 with
        | @cons v2 _ _ _ r2 r3 =>
          cases r3
          cases r1 with
          | int _ u =>
            have l := r.length; simp only [Array.length_toList] at l
            obtain ⟨h1, h2⟩ := upd_top (f := fun xs => have k := if i < 0 then (i + ((xs.size : Nat) : Int)).toNat else min i.toNat xs.size; (xs.extract 0 k).push v2 ++ xs.extract k) (xs' := xs.take i.toNat ++ d :: xs.drop i.toNat) e bd (by
              have hk : (if i < 0 then (i + ((items.size : Nat) : Int)).toNat else min i.toNat items.size) = i.toNat := by rw [if_neg (by omega)]; omega
              simp only [hk]
              have := (r.take i.toNat).append (.cons r2 (r.drop i.toNat))
              simpa [List.take_of_length_le] using this)
            exact call_meets F.slot_list_insert ⟨_, e, rfl⟩ F.entry_list_insert (F.args_list_insert_3 _ _ _) (AutoSeq1.list_insert_list_int_val_1 a items n i u v2 (by simp [Builtin.List.listFitsIndex]; omega) (sizeLine_le (by omega))) ⟨e, hq _ h1 h2⟩
    · cases ho
  · cases ho

theorem findIdx_val {h : Heap} {items : Array Value} {xs : List PyData} {d : PyData} {j : Nat} (hm : items.toList.map (SeqAt.readOf h) = xs) (hj : xs.findIdx? (fun y => PyData.eqv y d) = some j) :
    ∃ hj : j < items.size, PyData.eqv (SeqAt.readOf h items[j]) d = true ∧ ∀ m (hm : m < items.size), m < j → PyData.eqv (SeqAt.readOf h items[m]) d = false := by
  refine hide fun b_ hb_ => ?_
  subst hm
  rw [List.findIdx?_eq_some_iff_getElem] at hj
  obtain ⟨h1, h2, h3⟩ := hj
  refine hb_ ?_
  have hs : j < items.size := by simpa using h1
  refine ⟨hs, by simpa using h2, fun m hm hmj => ?_⟩
  have := h3 m hmj
  simpa using this

theorem RdAll.eraseIdx {w : World} {h : Heap} {B : Addr → Prop} (j : Nat) {vs : List Value} {xs : List PyData} (r : RdAll w h B vs xs) : RdAll w h B (vs.eraseIdx j) (xs.eraseIdx j) :=
  (RdAll.ind (P := fun vs xs => RdAll w h B vs xs ∧ ∀ j, RdAll w h B (vs.eraseIdx j) (xs.eraseIdx j)) ⟨.nil, fun _ => .nil⟩ (fun a b => ⟨.cons a b.1, fun j => by cases j with | zero => exact b.1 | succ j => exact .cons a (b.2 j)⟩) r).2 j

theorem remove_ok : MethOk G "list.remove" removeD := by
  intro A s B a items n xs vals ds xs' E Q hu bd e r rv ho hq
  cases rv with
  | nil => cases ho
  | @cons v1 _ d _ r1 r2 =>
    cases r2 with
    | cons _ _ => simp [removeD] at ho
    | nil =>
      simp only [removeD] at ho
      split at ho
      · rename_i hl
        refine hide fun b_ hb_ => ?_
        obtain ⟨hl, hx, hd⟩ := hl
        obtain ⟨j, ej, rfl⟩ := Option.map_eq_some_iff.mp ho
        refine hb_ ?_
        have l := r.length; simp only [Array.length_toList] at l
        refine hide fun b_ hb_ => ?_
        obtain ⟨kx, dx⟩ := okD_itemsL hx
        obtain ⟨kd, dd⟩ := okD_inv hd
        obtain ⟨as, ra⟩ := r.reads kx
        obtain ⟨bs, rb⟩ := r1.reads kd
        obtain ⟨hj, e1, e2⟩ := findIdx_val (SeqAt.readsAll_map xs _ _ kx ra) ej
        have hz := SeqAt.items_eqAt (A := A) ra rb kx kd (by omega)
        obtain ⟨h1, h2⟩ := upd_top (f := fun x => x.eraseIdxIfInBounds j) e bd (xs' := xs.eraseIdx j) (by
          have := r.eraseIdx j
          rw [Array.eraseIdxIfInBounds, dif_pos hj, Array.toList_eraseIdx]
          exact this)
        refine hb_ ?_
        exact call_meets F.slot_list_remove ⟨_, e, rfl⟩ F.entry_list_remove (F.args_list_remove_2 _ _) (list_removeAt a items n v1 _ j hj e1 e2 (sizeLine_le (by omega))) ⟨e, hz, hq _ h1 h2⟩
      · cases ho

theorem SS_meth {nm meth : Str} {id : String} {op : List PyData → List PyData → Option (List PyData)} {es : List Expr} {Fs : List EF} {p p2 p3 p4 : Pos} (i : Nat) (hi : vars[i]? = some nm) (hd : (nm == ("__debug__" : Str)) = false)
    (h : SAs G sc vars (n + 1) es Fs) (hm : MethOk G id op) (slot : PySem.Slot "list" meth id) (hty : typeOf (.builtin id) = pure (.type "method_descriptor")) (hl : (p2.endLine == p3.line) = true)
    (hbase : ∀ env, attributeBase (.Name nm p) meth env (eval (.Name nm p) env) = eval (.Name nm p) env)
    (hfew : ∀ env, ((backTo p3 (starEach es env)).all (fun x => !x.1) && (backToKw p3 (keywordEach [] env)).all (fun x => x.1.isSome) && decide (es.length + ([] : List Keyword).length + (if ([] : List Keyword).isEmpty then 0 else 1) < 30)) = true)
    (hplain : ∀ env, (backTo p3 (starEach es env)).any (·.1) = false)
    (hint : ∀ env, env.scope.kind = .function → interactive env = false) (hs : ∀ env, swapsWith (.Call (.Attribute (.Name nm p) meth p2) es [] p3) none p4.line env = pure false) :
    SS G sc vars (n + 1) (.Expr (.Call (.Attribute (.Name nm p) meth p2) es [] p3) p4) (sMeth i op Fs) := by
  intro c A st vs s hsc hv hown S r ns
  obtain ⟨o, eo⟩ : ∃ o, sMeth i op Fs st = o := ⟨_, rfl⟩
  rw [eo] at ns ⊢
  subst hv
  unfold sMeth at eo
  cases es0 : st.ρ[i]? with
  | none => rw [es0] at eo; exact absurd eo.symm ns
  | some sl =>
    rw [es0] at eo
    split at eo
    · rename_i l0 hsl
      refine hide fun b_ hb_ => ?_
      cases hsl
      have va := r.var i nm _ hi es0
      obtain ⟨a, ea, t0, f1, f2⟩ := r.slot i _ es0
      refine hb_ ?_
      refine wpAny_Expr ?_ (hint _ S.ok.kind) (hs _)
      refine wpAny_Call_method (T := "list") (id := id) (hbase _) (hfew _) hl F.plainAttrs_list slot hty (wpAny_Name (load_var S.ok.kind va ?_) hd)
      refine hide fun b_ hb_ => ?_
      obtain ⟨items0, n0, e0, r0⟩ : ∃ items n, s.heap.get? a = some (LObj items n) ∧ RdAll G.w s.heap (c.Ban st.ρ vs) items.toList l0 := by
        cases t0 with | list e r => exact ⟨_, _, e, r⟩
      refine hb_ ?_
      rw [ea]
      refine ⟨⟨_, e0, rfl⟩, fun b eb => by cases eb; exact ⟨_, e0, rfl⟩, ?_⟩
      refine Calls.callWith_builtin (hplain _) (evalArgs_any h (spliced_sound h hsc rfl S r eo ns fun avs st1 vls s1 ho q1 q2 q3 q4 => ?_))
      cases esh : shareAll avs st1 with
      | none => rw [esh] at ho; exact absurd ho.symm ns
      | some pr =>
        refine hide fun b_ hb_ => ?_
        obtain ⟨ds, st2⟩ := pr
        rw [esh] at ho
        simp only at ho
        obtain ⟨r1, s1', d1, t1⟩ := shareAll_sound S.ok q1 q4 esh
        refine hb_ ?_
        cases es2 : st2.ρ[i]? with
        | none => rw [es2] at ho; exact absurd ho.symm ns
        | some sl2 =>
          rw [es2] at ho
          split at ho
          · rename_i xs hsl2
            cases hsl2
            cases eop : op xs ds with
            | none => rw [eop] at ho; exact absurd ho.symm ns
            | some xs' =>
              rw [eop] at ho
              simp only at ho
              refine hide fun b_ hb_ => ?_
              subst ho
              obtain ⟨a2, ea2, t2, g1, g2⟩ := r1.slot i _ es2
              rw [ea] at ea2
              cases ea2
              obtain ⟨items, n1, e1, rr⟩ : ∃ items n, s1.heap.get? a = some (LObj items n) ∧ RdAll G.w s1.heap (c.Ban st2.ρ vs) items.toList xs := by
                cases t2 with | list e r => exact ⟨_, _, e, r⟩
              refine hb_ ?_
              have banA : c.Ban st2.ρ vs a := .inr (.inr (.inr ⟨i, _, _, es2, rfl, ea⟩))
              refine hm A s1 _ a items n1 xs vls ds xs' _ _ (room20 S) banA e1 rr d1 eop fun h' sm tp => ?_
              obtain ⟨r3, k3⟩ := r1.setOwn (h' := h') (tk := s1.toks) S.ok es2 ea sm tp
              exact ⟨rfl, vs, r3, (Kp.eval S.ok q2 (s1'.trans q3) r1).trans k3⟩
          · exact absurd ho.symm ns
    · exact absurd eo.symm ns

noncomputable def sExpr (F : EF) : SF := fun st => (F st).bind fun av st1 => match av.data st1 with
  | some .none => .ok .next st1
  | _ => .stuck
theorem SS_expr {e : Expr} {p : Pos} {F : EF} (h : SE G sc vars n e F) (hint : ∀ env, env.scope.kind = .function → interactive env = false) (hs : ∀ env, swapsWith e none p.line env = pure false) : SS G sc vars n (.Expr e p) (sExpr F) := by
  intro c A st vs s hsc hv hown S r ns
  obtain ⟨o, eo⟩ : ∃ o, sExpr F st = o := ⟨_, rfl⟩
  rw [eo] at ns ⊢
  refine wpAny_Expr ?_ (hint _ S.ok.kind) (hs _)
  refine h.use hsc hv S r eo ns fun av st1 v1 s1 ho q1 q2 q3 q4 q5 => ?_
  cases ea : av.data st1 with
  | none => rw [ea] at ho; exact absurd ho.symm ns
  | some x =>
    have rv := q4.readV q1 ea
    rw [ea] at ho
    cases x <;> first | exact absurd ho.symm ns | skip
    have := rv.none_inv
    subst this
    subst ho
    exact ⟨rfl, vs, q1, Kp.eval S.ok q2 q3 q1⟩

theorem SS_set {nm : Str} {ek ev : Expr} {p p2 p3 : Pos} {Fk Fv : EF} (i : Nat) (hi : vars[i]? = some nm) (hd : (nm == ("__debug__" : Str)) = false) (hk : SE G sc vars (n + 1) ek Fk) (hvv : SE G sc vars (n + 1) ev Fv)
    (hs : ∀ env, swapsWith ev (some (.Subscript (.Name nm p) ek p2)) p3.line env = pure false) : SS G sc vars (n + 1) (.Assign [.Subscript (.Name nm p) ek p2] ev p3) (sSet i Fk Fv) := by
  intro c A st vs s hsc hv hown S r ns
  obtain ⟨o, eo⟩ : ∃ o, sSet i Fk Fv st = o := ⟨_, rfl⟩
  rw [eo] at ns ⊢
  subst hv
  refine wpAny_Assign_Subscript ?_ (hs _)
  refine hvv.use hsc rfl S r eo ns fun av st1 v1 s1 ho q1 q2 q3 q4 q5 => ?_
  cases es0 : st1.ρ[i]? with
  | none => rw [es0] at ho; exact absurd ho.symm ns
  | some sl =>
    rw [es0] at ho
    split at ho
    · rename_i l0 hsl
      refine hide fun b_ hb_ => ?_
      cases hsl
      have va := q1.var i nm _ hi es0
      obtain ⟨a, ea, _, _, _⟩ := q1.slot i _ es0
      refine hb_ ?_
      refine wpAny_Name (load_var S.ok.kind va ?_) hd
      rw [ea]
      refine hk.use hsc rfl S q1 ho ns fun ak st2 v2 s2 ho2 p1 p2 p3 p4 p5 => ?_
      cases esv : av.share st2 with
      | none => rw [esv] at ho2; exact absurd ho2.symm ns
      | some pr =>
        refine hide fun b_ hb_ => ?_
        obtain ⟨x, st3⟩ := pr
        rw [esv] at ho2
        simp only at ho2
        obtain ⟨r3, z3, rd3, _⟩ := share_sound S.ok p1 (q4.move p2 p3) esv
        refine hb_ ?_
        cases esk : ak.share st3 with
        | none => rw [esk] at ho2; exact absurd ho2.symm ns
        | some pr =>
          refine hide fun b_ hb_ => ?_
          obtain ⟨k, st4⟩ := pr
          rw [esk] at ho2
          simp only at ho2
          obtain ⟨r4, z4, rd4, _⟩ := share_sound S.ok r3 (p4.move (KeepBut.refl _ _) z3) esk
          refine hb_ ?_
          have rd3' := rd3.mono (B' := c.Ban st4.ρ vs) fun b o e nb => ⟨e, fun q => nb (z4.ban b q)⟩
          cases es4 : st4.ρ[i]? with
          | none => rw [es4] at ho2; exact absurd ho2.symm ns
          | some sl4 =>
            rw [es4] at ho2
            split at ho2
            · rename_i kvs hsl4
              cases hsl4
              split at ho2
              · rename_i hok
                refine hide fun b_ hb_ => ?_
                subst ho2
                simp only [Bool.and_eq_true, decide_eq_true_eq] at hok
                obtain ⟨a2, ea2, t2, g1, g2⟩ := r4.slot i _ es4
                rw [ea] at ea2
                cases ea2
                refine hb_ ?_
                have banA : c.Ban st4.ρ vs a := .inr (.inr (.inr ⟨i, _, _, es4, rfl, ea⟩))
                cases t2 with
                | dict e sn nd re =>
                  refine dset_sound (b := true) (by have := room20 S; omega) banA e re nd (by omega) rd4 rd3' hok.1 fun h' tk st1' => ?_
                  refine hide fun b_ hb_ => ?_
                  obtain ⟨⟨es', n', e', re'⟩, nd', sm⟩ := st1'
                  obtain ⟨r5, k5⟩ := r4.setOwn (h' := h') (tk := tk) S.ok es4 ea sm (.dict e' sn nd' re')
                  refine hb_ ?_
                  exact ⟨rfl, vs, r5, (Kp.eval S.ok (q2.trans p2) ((z4.trans z3).trans (p3.trans q3)) r4).trans k5⟩
              · exact absurd ho2.symm ns
            · exact absurd ho2.symm ns
    · exact absurd ho.symm ns
end
end Mine
namespace Mine
open PySem PySem.W PySem.Calls PyProof.Rows

section
variable {G : GC} {c : FC} {st st0 st1 st2 st3 st' : St} {vs vs0 vs1 : Nat → Value} {s s0 s1 s' : Shared} {v : Value} {av : AV} {x : PyData} {sc : Scope} {vars : List Str} {n : Nat} {A : Around} {M : Model} {E : Value → Shared → Prop}

theorem UpTo.slots {τ : Addr} {h0 h h' : Heap} (u : UpTo τ h0 h) (k : h.UpToSlots h') : UpTo τ h0 h' := by
  intro b o e nb nf
  obtain ⟨sl, e1⟩ := u b o e nb nf
  obtain ⟨sl2, e2⟩ := k b _ e1 nf
  exact ⟨sl2, e2⟩

theorem noteFrame_frame {env env' : Env} (h : env.frame = env'.frame) (e : Value) : noteFrame e env = noteFrame e env' := by
  unfold noteFrame PySem.frameOf
  rw [h]

theorem wpAny_noteFrame_madeW {base : Heap} {env : Env} {outer : List Env} {L e : Addr} {oe : Obj} {vs : Array Value} {a0 : Value} {Q : Unit → Shared → Prop}
    (hfr : A.frames = some (env :: outer)) (hl : s.heap.FunFrames base (env :: outer)) (hf : env.frame = some L)
    (he : s.heap.get? e = some oe) (hkb : base.StaysIn s.heap) (hen : base.get? e = none) (hd : oe.data = .fields vs) (h1 : vs[1]? = some .none) (h0 : vs[0]? = some a0)
    (h : ∀ h', Heap.NotedW base (env :: outer) e oe.cls a0 (rawInt L) s.heap h' → Q () { s with heap := h' }) : wpAny M A (noteFrame (.ref e) env) Q E s := by
  unfold noteFrame
  simp only [hf]
  refine wpAny_bind (wpAny_field he hd h1 ?_)
  rw [if_neg (by decide)]
  exact wpAny_entryW hfr hl hf he hkb hen hd (Array.getElem?_eq_some_iff.mp h1).1 h0 h

theorem wpAny_setFlight_atW {base : Heap} {l : List Env} {e L : Addr} {cls a0 fl : Value} {Q : Unit → Shared → Prop}
    (hkb : base.StaysIn s.heap) (hl : s.heap.FunFrames base l) (ht : s.heap.TracedAtW base e cls a0 fl)
    (h : ∀ h', base.StaysIn h' → h'.FunFrames base l → h'.TracedAtW base e cls a0 (rawInt L) → s.heap.UpToSlots h' → Q () { s with heap := h' }) :
    wpAny M A (do
      if (← field (.ref e) 1) == .none then unsupported "frame.own-activation:exception-without-traceback"
      setFlight (.ref e) (some L)) Q E s := by
  refine hide fun b_ hb_ => ?_
  obtain ⟨oe, vs, T, oT, ts, he, hcls, hd, h1, hnT, hTe, hT, hdT, h3⟩ := ht
  refine hb_ ?_
  have hsz3 : 3 < ts.size := (Array.getElem?_eq_some_iff.mp h3).1
  have other : ∀ b, b ≠ T → (s.heap.update T (Obj.mapFields (·.setIfInBounds 3 ((some L : Option Addr).elim Value.none fun f => rawInt f)))).get? b = s.heap.get? b :=
    fun b hb => Heap.get?_update_other _ _ (Ne.symm hb)
  have noRecord : ∀ b o, s.heap.get? b = some o → (∀ vs, o.data ≠ .fields vs) → b ≠ T := fun b o hb hnf q => by
    rw [q, hT] at hb; injection hb with hb; subst hb; exact hnf ts hdT
  refine wpAny_bind (wpAny_field he hd h1 ?_)
  rw [if_neg (show ¬ (Value.ref T == Value.none) = true from by simp)]
  unfold setFlight
  refine wpAny_bind (wpAny_field he hd h1 ?_)
  rw [if_pos (show (Value.ref T != Value.none) = true from by simp)]
  refine wpAny_setField hT hdT hsz3 (h _ (fun b o hbo => (other b fun q => by rw [q, hnT] at hbo; cases hbo).trans (hkb b o hbo))
    (hl.of_keeps fun b o hb hnf => ⟨o, (other b (noRecord b o hb hnf)).trans hb, rfl⟩) ?_ fun b o hb hnf => ⟨o.slots, (other b (noRecord b o hb hnf)).trans hb⟩)
  exact ⟨oe, vs, T, _, _, (other e (Ne.symm hTe)).trans he, hcls, hd, h1, hnT, hTe, Heap.get?_update_self _ hT (Obj.isFreed_of_fields (Obj.data_mapFields hdT _)), Obj.data_mapFields hdT _, by simp [hsz3]⟩

theorem passesOwn {β : Type} {o : Out β} (S : Surr G c n A) : PassesOwn G.M A c.env (EE G c o) := by
  rintro e s' ⟨er, ea, rfl, ⟨hst, hbase, ff, a0, Lf, hf, hcase⟩, up, rst, mL, oL, esL, epL, hoL, hdL, hrL⟩
  have hfe : c.env.frame = some Lf := S.ok.frame.trans hf
  have fin : ∀ (h' : Heap), G.H.StaysIn h' → h'.FunFrames G.H (c.fenv :: c.outer) → h'.TracedAtW G.H ea (.ref G.C) a0 (rawInt Lf) → s'.heap.UpToSlots h' → cameBackBy G.M A c.env (EE G c o) (.ref ea) { s' with heap := h' } := by
    intro h' k1 k2 k3 k4
    unfold cameBackBy
    rw [hfe]
    refine wpAny_setFlight_atW (s := { s' with heap := h' }) k1 k2 k3 fun h2 j1 j2 j3 j4 => ?_
    obtain ⟨sl1, e1⟩ := k4 _ _ hoL (fun fs z => by rw [hdL] at z; cases z)
    obtain ⟨sl2, e2⟩ := j4 _ _ e1 (fun fs z => by rw [show ({ oL with slots := sl1 } : Obj).data = oL.data from rfl, hdL] at z; cases z)
    exact ⟨er, ea, rfl, ⟨j1, hbase, j2, a0, Lf, hf, .inr (.inr j3)⟩, (up.slots k4).slots j4, rst, mL, _, esL, epL, e2, hdL, hrL⟩
  unfold notedBy
  rw [noteFrame_frame S.ok.frame]
  rcases hcase with ⟨oe, vs, he, hc, hd, h1, h0⟩ | ht | ht
  · refine wpAny_noteFrame_madeW S.fr ff hf he hst hbase hd h1 h0 fun h' hN => ?_
    refine hide fun b_ hb_ => ?_
    obtain ⟨k1, k2, k3, k4⟩ := hN
    refine hb_ ?_
    rw [hc] at k3
    exact fin h' k1 k2 k3 k4
  · refine wpAny_noteFrame_onW S.fr ff hf ht hst hbase fun h' hN => ?_
    refine hide fun b_ hb_ => ?_
    obtain ⟨k1, k2, k3, k4⟩ := hN
    refine hb_ ?_
    exact fin h' k1 k2 k3 k4
  · exact wpAny_noteFrame_againW hf ht (fin s'.heap hst ff ht (Heap.UpToSlots.refl _))

theorem RdTop.monoN {w : World} {h h' : Heap} {B B' : Addr → Prop} (k : ∀ b o, h.get? b = some o → (∀ fs, o.data ≠ .fields fs) → ¬ B b → h'.get? b = some o ∧ ¬ B' b) {a d} (ka : ∀ o, h.get? a = some o → (∀ fs, o.data ≠ .fields fs) → h'.get? a = some o) : RdTop w h B a d → RdTop w h' B' a d
  | .list e r => .list (ka _ e fun _ z => by cases z) (r.monoN k)
  | .dict e s nd r => .dict (ka _ e fun _ z => by cases z) s nd (r.monoN k)

theorem SR.stepX {I : Addr} {h' : Heap} {tk : Nat} (ok : c.Ok G) (r : SR G c st vs s) (hI : ∃ o fs, s.heap.get? I = some o ∧ o.data = .fields fs) (hin : c.hin.get? I = none) (hW : ¬ c.W I)
    (k : ∀ b o, b ≠ I → s.heap.get? b = some o → h'.get? b = some o) : SR G c st vs { s with heap := h', toks := tk } := by
  refine hide fun b_ hb_ => ?_
  obtain ⟨oI, fs, eI, dI⟩ := hI
  refine hb_ ?_
  have ne : ∀ b o, s.heap.get? b = some o → (∀ fs, o.data ≠ .fields fs) → b ≠ I := fun b o e nf q => by
    subst q; rw [eI] at e; cases e; exact nf _ dI
  have kT : ∀ b o, s.heap.get? b = some o → (∀ fs, o.data ≠ .fields fs) → h'.get? b = some o := fun b o e nf => k b o (ne b o e nf) e
  have km : ∀ b o, s.heap.get? b = some o → (∀ fs, o.data ≠ .fields fs) → ¬ c.Ban st.ρ vs b → h'.get? b = some o ∧ ¬ c.Ban st.ρ vs b := fun b o e nf nb => ⟨kT b o e nf, nb⟩
  refine ⟨r.len, fun i n sl h1 h2 => ?_, fun i sl h => ?_, r.uniq, ?_, fun b o nb e => k b o (fun q => by subst q; rw [hin] at e; cases e) (r.keep b o nb e), ?_, r.rest, fun b hb => ?_, ?_⟩
  · have va := r.var i n sl h1 h2
    unfold VarAt at va ⊢
    split at va
    · refine hide fun b_ hb_ => ?_
      obtain ⟨m, ⟨o, es, ep, ho, hd, rr⟩, e⟩ := va
      refine hb_ ?_
      exact ⟨m, ⟨o, es, ep, kT _ _ ho (fun _ z => by rw [hd] at z; cases z), hd, rr⟩, e⟩
    · refine hide fun b_ hb_ => ?_
      obtain ⟨ca, e, o, ho, hd⟩ := va
      refine hb_ ?_
      exact ⟨ca, e, o, kT _ _ ho (fun _ z => by rw [hd] at z; cases z), hd⟩
    · exact va
  · have z := r.slot i sl h
    unfold SlotR at z ⊢
    cases sl with
    | unset => trivial
    | sh y => exact z.monoN km
    | own y => obtain ⟨a, e, r, f1, f2⟩ := z; exact ⟨a, e, r.monoN km (fun o q nf => kT _ _ q nf), f1, f2⟩
    | lent y => obtain ⟨a, e, r, f1, f2⟩ := z; exact ⟨a, e, r.monoN km (fun o q nf => kT _ _ q nf), f1, f2⟩
    | tape => exact z
  · refine hide fun b_ hb_ => ?_
    obtain ⟨tv, tn, te, ti⟩ := r.tape
    refine hb_ ?_
    exact ⟨tv, tn, kT _ _ te (fun _ z => by cases z), ti⟩
  · exact r.frames.of_keeps fun b o e nf => ⟨o, kT b o e nf, rfl⟩
  · obtain ⟨o, e⟩ := r.wIn b hb
    exact ⟨o, k b o (fun q => hW (q ▸ hb)) e⟩
  · refine hide fun b_ hb_ => ?_
    obtain ⟨m, o, es, ep, ho, hd, hr⟩ := r.nsL
    refine hb_ ?_
    exact ⟨m, o, es, ep, kT _ _ ho (fun _ z => by rw [hd] at z; cases z), hd, hr⟩

theorem not_banM_fields (r : SR G c st vs s) {I : Addr} (hI : ∃ o fs, s.heap.get? I = some o ∧ o.data = .fields fs) (ok : c.Ok G) (hin : c.hin.get? I = none) (hW : ¬ c.W I) : ¬ c.BanM st.ρ vs I := by
  obtain ⟨oI, fs, eI, dI⟩ := hI
  rintro (h | h | h | ⟨j, y, h1, h3⟩)
  · obtain ⟨o, e⟩ := ok.Bin I h; rw [hin] at e; cases e
  · exact hW h
  · obtain ⟨o, e⟩ := ok.τin; rw [← h, hin] at e; cases e
  · obtain ⟨a, e, t, _⟩ := r.slot j _ h1
    rw [h3] at e; cases e
    cases t with
    | list e _ => rw [eI] at e; cases e; cases dI
    | dict e _ _ _ => rw [eI] at e; cases e; cases dI

noncomputable def sLoop (store : PyData → St → Option St) (Fb : SF) : List PyData → SF
  | [], st => .ok .next st
  | x :: xs, st => match store x st with
    | none => .stuck
    | some st1 => (Fb st1).bind fun r st2 => match r with
      | .next => sLoop store Fb xs st2
      | .ret y f => .ok (.ret y f) st2

noncomputable def ownsTuples : List String := ["enumerate", "zip", "dict_itemiterator", "dict_reverseitemiterator", "odict_iterator", "itertools.zip_longest", "itertools.pairwise"]

structure Tgt (G : GC) (sc : Scope) (vars : List Str) (n : Nat) (loc : Bool) (tgt : Expr) (store : PyData → St → Option St) : Prop where
  put : ∀ (c : FC) (A : Around) (st : St) (vs : Nat → Value) (s : Shared) (v : Value) (x : PyData) (st' : St) (E : Value → Shared → Prop) (K : Unit → Shared → Prop), c.env.scope = sc → c.vars = vars → (c.ownc = true ∨ loc = true) → Surr G c n A → SR G c st vs s →
    Rd G.w s.heap (c.Ban st.ρ vs) v x → store x st = some st' → (∀ vs' s', SR G c st' vs' s' → Kp c st vs s st' vs' s' → (loc = true → ∀ b o, b ≠ c.L → s.heap.get? b = some o → s'.heap.get? b = some o) → K () s') → wpAny G.M A (assign tgt c.env v) K E s
  go : ∀ (A : Around) (s : Shared) (I : Addr) (v : Value) (E : Value → Shared → Prop) (K : Unit → Shared → Prop), (∃ o T fs, s.heap.get? I = some o ∧ o.cls = .type T ∧ o.data = .fields fs ∧ ownsTuples.contains T = false) → K () s →
    wpAny G.M A (letOwnedTupleGo tgt (.ref I) v) K E s
  noOwn : ∀ (x : PyData) (st st' : St), store x st = some st' → (∀ (j : Nat) (sl : Slot), st.ρ[j]? = some sl → sl.owned = none) → ∀ (j : Nat) (sl : Slot), st'.ρ[j]? = some sl → sl.owned = none

theorem Kp.turn {I : Addr} {h' : Heap} {tk : Nat} (k : Kp c st vs s0 st1 vs1 s1) (hI0 : s0.heap.get? I = none) (hk : ∀ b o, b ≠ I → s1.heap.get? b = some o → h'.get? b = some o) : Kp c st vs s0 st1 vs1 { s1 with heap := h', toks := tk } := by
  have ne : ∀ b o, s0.heap.get? b = some o → b ≠ I := fun b o e q => by subst q; rw [hI0] at e; cases e
  refine ⟨fun b o e nb => hk b o (ne b o e) (k.keep b o e nb), k.mM, k.mB, fun b o e => ?_⟩
  obtain ⟨o', e'⟩ := k.live b o e
  exact ⟨o', hk b o' (ne b o e) e'⟩

theorem loopCore {loc : Bool} {tgt : Expr} {store : PyData → St → Option St} {body : List Stmt} {Fb : SF} (T : Tgt G sc vars n loc tgt store) (hb : SSs G sc vars n body Fb)
    (hsc : c.env.scope = sc) (hv : c.vars = vars) (hown : c.ownc = true) (S : Surr G c n A) (r : SR G c st vs s) {xs : List PyData} {o : Out SRes} (eo : sLoop store Fb xs st = o) (ns : o ≠ .stuck)
    {I : Addr} {fp : List Addr} {P : Nat → Value → Prop} {St : Nat → Heap → Prop} (W : Walks G.prog G.w A I fp [I] xs.length P St) (hst : St 0 s.heap) (k0 : Kp c st vs s0 st vs s) (hI0 : s0.heap.get? I = none) (hin : c.hin.get? I = none) (hW : ¬ c.W I)
    (fld : ∀ i h, St i h → ∃ o T fs, h.get? I = some o ∧ o.cls = .type T ∧ o.data = .fields fs ∧ ownsTuples.contains T = false)
    (hfp : ∀ b ∈ fp, b ≠ I → ¬ c.BanM st.ρ vs b ∧ ∃ o, s0.heap.get? b = some o)
    (hP : ∀ i v, i < xs.length → P i v → ∃ x, xs[i]? = some x ∧ Rd G.w s0.heap (c.Ban st.ρ vs) v x) :
    codeAny G.M A (.forLoop tgt (.ref I) body [] c.env) (fun r s' => match r with | .ok f => QS G c st vs s0 o f s' | .error e => cameBackBy G.M A c.env (EE G c o) e s') s := by
  have hE' : PassesOwn G.M A c.env (EE G c o) := passesOwn S
  have Ifld : ∀ i h, St i h → ∃ o fs, h.get? I = some o ∧ o.data = .fields fs := fun i h q => let ⟨o, T, fs, a, _, b, _⟩ := fld i h q; ⟨o, fs, a, b⟩
  refine codeAny_forLoop_any (fun k s' => ∃ i st1 vs1, i ≤ xs.length ∧ k = xs.length + 1 - i ∧ sLoop store Fb (xs.drop i) st1 = o ∧ SR G c st1 vs1 s' ∧ Kp c st vs s0 st1 vs1 s' ∧ St i s'.heap) ?_ (xs.length + 1) ⟨0, st, vs, Nat.zero_le _, rfl, by simpa using eo, r, k0, hst⟩
  rintro k s1 ⟨i, st1, vs1, hi, rfl, e1, r1, k1, hst1⟩
  refine wpAny_passesOwn hE' ?_
  by_cases hlt : i < xs.length
  · refine W.item i s1 _ _ hlt hst1 fun v h' tk hPv hst2 hk => ?_
    have hk' : ∀ b o, b ≠ I → s1.heap.get? b = some o → h'.get? b = some o := fun b o nb e => hk b o (by simpa using nb) e
    have r2 : SR G c st1 vs1 { s1 with heap := h', toks := tk } := r1.stepX S.ok (Ifld _ _ hst1) hin hW hk'
    have k2 : Kp c st vs s0 st1 vs1 { s1 with heap := h', toks := tk } := k1.turn hI0 hk'
    have nI := not_banM_fields r2 (Ifld _ _ hst2) S.ok hin hW
    obtain ⟨x, hx, rd0⟩ := hP i v hlt hPv
    -- the item, read now
    have rd1 : Rd G.w h' (c.Ban st1.ρ vs1) v x := rd0.mono fun b o e nb => ⟨k2.keep b o e (fun q => nb (banM_ban q)), fun q => nb (k2.mB b o e q)⟩
    have hd : xs.drop i = x :: xs.drop (i + 1) := by
      rw [List.drop_eq_getElem_cons hlt]
      rw [List.getElem?_eq_getElem hlt] at hx
      rw [Option.some.inj hx]
    rw [hd] at e1
    simp only [sLoop] at e1
    cases es : store x st1 with
    | none => rw [es] at e1; exact absurd e1.symm ns
    | some st2 =>
      rw [es] at e1
      simp only at e1
      refine wpAny_mono (T.go A { s1 with heap := h', toks := tk } I v (fun _ _ => False) (fun _ s2 => s2 = { s1 with heap := h', toks := tk }) (fld _ _ hst2) rfl) (fun _ s2 es2 => ?_) fun _ _ q => q.elim
      subst es2
      refine wpAny_passesOwn hE' ?_
      refine T.put c A st1 vs1 _ v x st2 _ _ hsc hv (.inl hown) S r2 rd1 es fun vs2 s3 r3 k3 _ => ?_
      refine wpAny_passesOwn hE' ?_
      refine wpAny_mono (hb c A st2 vs2 s3 hsc hv hown S r3 (fun q => by rw [q] at e1; exact ns e1.symm)) (fun f s4 q => ?_) fun e s4 q => ?_
      · have k3' : Kp c st vs s0 st2 vs2 s3 := k2.trans k3
        cases ef : Fb st2 with
        | raise => rw [ef] at q; cases q
        | stuck => rw [ef] at q; cases q
        | ok res st3 =>
          rw [ef] at q e1
          cases res with
          | ret y fr =>
            obtain ⟨w, rfl, q2⟩ := q
            have e1' : Out.ok (.ret y fr) st3 = o := e1
            show QS G c st vs s0 o (.ret w) s4
            rw [← e1']
            exact ⟨w, rfl, q2⟩
          | next =>
            obtain ⟨rfl, vs3, r4, k4⟩ := q
            -- the iterator and the list stay
            have I3 : s3.heap.get? I = h'.get? I := by
              obtain ⟨oI, fs, eI, _⟩ := Ifld _ _ hst2
              rw [eI]; exact k3.keep I oI eI nI
            have hst3 : St (i + 1) s3.heap := by
              refine W.frame _ _ _ hst2 fun b hb o e => ?_
              by_cases q : b = I
              · subst q; rw [I3]; exact e
              · obtain ⟨nb, ob, eb⟩ := hfp b hb q
                have := k2.keep b ob eb nb
                have e' : h'.get? b = some o := e
                rw [show h'.get? b = some ob from this] at e'
                cases e'
                exact k3'.keep b o eb nb
            have nI3 := not_banM_fields r3 (Ifld _ _ hst3) S.ok hin hW
            have k5 : Kp c st vs s0 st3 vs3 s4 := k3'.trans k4
            have hst4 : St (i + 1) s4.heap := by
              refine W.frame _ _ _ hst3 fun b hb o e => ?_
              by_cases q : b = I
              · subst q
                exact k4.keep b o e nI3
              · obtain ⟨nb, ob, eb⟩ := hfp b hb q
                have e3 := k3'.keep b ob eb nb
                rw [e3] at e
                cases e
                exact k5.keep b o eb nb
            exact ⟨xs.length + 1 - (i + 1), by omega, i + 1, st3, vs3, hlt, rfl, e1, r4, k5, hst4⟩
      · obtain ⟨q1, q2⟩ := q
        rw [q1] at e1
        exact ⟨e1.symm, q2⟩
  · have hii : i = xs.length := by omega
    subst hii
    refine W.done s1 _ _ hst1 fun h' tk hk => ?_
    have hk' : ∀ b o, b ≠ I → s1.heap.get? b = some o → h'.get? b = some o := fun b o nb e => hk b o (by simpa using nb) e
    have r2 : SR G c st1 vs1 { s1 with heap := h', toks := tk } := r1.stepX S.ok (Ifld _ _ hst1) hin hW hk'
    have k2 : Kp c st vs s0 st1 vs1 { s1 with heap := h', toks := tk } := k1.turn hI0 hk'
    refine wpAny_execs_nil ?_
    simp only [List.drop_length, sLoop] at e1
    show QS G c st vs s0 o .next _
    rw [← e1]
    exact ⟨rfl, vs1, r2, k2⟩
end
end Mine
namespace Mine
open PySem PySem.W PySem.Calls PyProof.Rows

noncomputable def tName (i : Nat) (x : PyData) (st : St) : Option St := putSlot i (.sh x) st
noncomputable def tPair (i j : Nat) (x : PyData) (st : St) : Option St := match x with
  | .tuple [a, b] => (putSlot i (.sh a) st).bind fun st1 => putSlot j (.sh b) st1
  | _ => none
noncomputable def itemsD : PyData → Option (List PyData)
  | .list xs => some xs
  | .tuple xs => some xs
  | _ => none
noncomputable def Slot.notLent : Slot → Bool
  | .lent _ => false
  | _ => true
noncomputable def unlend (i : Nat) (st : St) : Out SRes := match st.ρ[i]? with
  | some (.lent x) => .ok .next ⟨st.ρ.set i (.own x), st.ts⟩
  | _ => .stuck
noncomputable def sForD (d : PyData) (store : PyData → St → Option St) (Fb : SF) : SF := fun st => match itemsD d with
  | some xs => sLoop store Fb xs st
  | none => .stuck
noncomputable def sForOwn (i : Nat) (store : PyData → St → Option St) (Fb : SF) (xs : List PyData) : SF := fun st =>
  if st.ρ.all Slot.notLent then (sLoop store Fb xs ⟨st.ρ.set i (.lent (.list xs)), st.ts⟩).bind fun r st2 => match r with
    | .next => unlend i st2
    | .ret y f => .ok (.ret y f) st2
  else .stuck
noncomputable def sFor (Fi : EF) (store : PyData → St → Option St) (Fb : SF) : SF := fun st => (Fi st).bind fun av st1 => match av with
  | .var i => match st1.ρ[i]? with
    | some (.own (.list xs)) => sForOwn i store Fb xs st1
    | some (.sh d) => sForD d store Fb st1
    | _ => .stuck
  | .dat d _ => sForD d store Fb st1
  | .tape => .stuck
noncomputable def sForR (Fe : EF) (store : PyData → St → Option St) (Fb : SF) : SF := fun st => (Fe st).bind fun av st1 => match av.data st1 with
  | some (.int m) => if 0 ≤ m ∧ m ≤ 100000 then sLoop store Fb ((List.range m.toNat).map fun (k : Nat) => PyData.int k) st1 else .stuck
  | _ => .stuck

section
variable {G : GC} {c : FC} {st st0 st1 st2 st3 st' : St} {vs vs0 vs1 : Nat → Value} {s s0 s1 s' : Shared} {v : Value} {av : AV} {x : PyData} {sc : Scope} {vars : List Str} {n : Nat} {A : Around} {M : Model} {E : Value → Shared → Prop}

theorem putSlot_noOwn {i : Nat} {x : PyData} {st st' : St} (h : putSlot i (.sh x) st = some st') (no : ∀ (j : Nat) (sl : Slot), st.ρ[j]? = some sl → sl.owned = none) : ∀ (j : Nat) (sl : Slot), st'.ρ[j]? = some sl → sl.owned = none := by
  unfold putSlot at h
  split at h
  · split at h
    · cases h
      intro j sl hj
      by_cases q : j = i
      · subst q; rw [set_self hj]; rfl
      · exact no j sl (set_other hj q)
    · cases h
  · cases h
theorem Tgt_name {loc : Bool} {nm : Str} {p : Pos} (i : Nat) (hi : vars[i]? = some nm) (hl : loc = true → sc.names.lookup nm = some .local) : Tgt G sc vars n loc (.Name nm p) (tName i) where
  put := fun c A st vs s v x st' E K hsc hv hown S r rd es next => by
    refine wpAny_assign_Name ?_
    have hown' : c.ownc = true ∨ c.env.kindOf nm = some .local := hown.imp id fun q => by unfold Env.kindOf; rw [hsc]; exact hl q
    exact put_sound (av := .dat x false) S.ok hown' r r (KeepBut.refl _ _) (.refl _) (by rw [hv]; exact hi) rd trivial rfl es fun s2 vs' r3 k kl => next vs' s2 r3 k fun q => kl (by unfold Env.kindOf; rw [hsc]; exact hl q)
  go := fun A s I v E K _ h => wpAny_pure h
  noOwn := fun x st st' h => putSlot_noOwn h

theorem Tgt_pair {loc : Bool} {n1 n2 : Str} {p1 p2 p : Pos} {kk} (i j : Nat) (hi : vars[i]? = some n1) (hj : vars[j]? = some n2) (hl : loc = true → sc.names.lookup n1 = some .local ∧ sc.names.lookup n2 = some .local) : Tgt G sc vars n loc (.Tuple [.Name n1 p1, .Name n2 p2] kk p) (tPair i j) where
  put := fun c A st vs s v x st' E K hsc hv hown S r rd es next => by
    unfold tPair at es
    split at es
    · rename_i a b
      obtain ⟨st1, e1, e2⟩ := Option.bind_eq_some_iff.mp es
      cases rd with
      | @tuple ad tv tn _ eh nb rr =>
        have l := rr.length
        obtain ⟨tl⟩ := tv
        cases rr with
        | @cons v1 vr _ _ ra rr =>
          cases rr with
          | @cons v2 vr2 _ _ rb rr =>
            cases rr with
            | nil =>
              refine wpAny_assign_Tuple (items := ⟨[v1, v2]⟩) S.hh ⟨_, eh, rfl, _, rfl⟩ rfl rfl fun h' hx => ?_
              have kA : KeepAll s.heap h' := fun b o e => hx b o (Nat.ne_of_lt (Heap.lt_size e)) e
              have r' : SR G c st vs { s with heap := h' } := r.keepAll S.ok kA ⟨rfl, rfl, rfl⟩
              show wpAny _ A (do holding [v2] (assign (.Name n1 p1) c.env v1); do holding [] (assign (.Name n2 p2) c.env v2); pure ()) _ _ _
              refine wpAny_bind (wpAny_holding (wpAny_assign_Name ?_))
              have hown1 : c.ownc = true ∨ c.env.kindOf n1 = some .local := hown.imp id fun q => by unfold Env.kindOf; rw [hsc]; exact (hl q).1
              have hown2 : c.ownc = true ∨ c.env.kindOf n2 = some .local := hown.imp id fun q => by unfold Env.kindOf; rw [hsc]; exact (hl q).2
              refine put_sound (s0 := s) (av := .dat a false) S.ok hown1 r r' (kA.but _) (.refl _) (by rw [hv]; exact hi) (ra.keep kA) trivial rfl e1 fun s2 vs1 r1 k1 kl1 => ?_
              refine wpAny_bind (wpAny_holding (wpAny_assign_Name ?_))
              have rb1 : Rd G.w s2.heap (c.Ban st1.ρ vs1) v2 b := rb.mono fun d o e nd => ⟨k1.keep d o e (fun q => nd (banM_ban q)), fun q => nd (k1.mB d o e q)⟩
              refine put_sound (s0 := s2) (av := .dat b false) S.ok hown2 r1 r1 (KeepBut.refl _ _) (.refl _) (by rw [hv]; exact hj) rb1 trivial rfl e2 fun s3 vs2 r2 k2 kl2 => ?_
              exact wpAny_pure (next vs2 s3 r2 (k1.trans k2) fun q b o nb e => kl2 (by unfold Env.kindOf; rw [hsc]; exact (hl q).2) b o nb (kl1 (by unfold Env.kindOf; rw [hsc]; exact (hl q).1) b o nb (kA b o e)))
    · cases es
  go := fun A s I v E K h hK => by
    cases v with
    | ref a =>
      refine hide fun b_ hb_ => ?_
      obtain ⟨o, T, fs, eo, ec, ed, hT⟩ := h
      refine hb_ ?_
      unfold letOwnedTupleGo
      refine wpAny_bind (wpAny_load eo ?_)
      rw [ec, ed]
      show wpAny _ A (if (ownsTuples.contains T && fs[0]? == some (rawInt a)) = true then _ else _) K E s
      rw [if_neg (by rw [hT]; simp)]
      exact wpAny_pure hK
    | _ => exact wpAny_pure hK
  noOwn := fun x st st' h no => by
    unfold tPair at h
    split at h
    · obtain ⟨st1, e1, e2⟩ := Option.bind_eq_some_iff.mp h
      exact putSlot_noOwn e2 (putSlot_noOwn e1 no)
    · cases h

theorem RdAll.getV {w : World} {h : Heap} {B : Addr → Prop} {vs : List Value} {xs : List PyData} {i : Nat} {v : Value} (r : RdAll w h B vs xs) (e : vs[i]? = some v) : ∃ x, xs[i]? = some x ∧ Rd w h B v x := by
  have hi : i < xs.length := by rw [← r.length]; exact (List.getElem?_eq_some_iff.mp e).1
  obtain ⟨u, hu, q⟩ := r.get (List.getElem?_eq_getElem hi)
  cases e.symm.trans hu
  exact ⟨_, List.getElem?_eq_getElem hi, q⟩

theorem Kp.push {o : Obj} {tk : Nat} : Kp c st vs s st vs { s with heap := s.heap.push o, toks := tk } :=
  ⟨fun _ _ e _ => Heap.get?_push_of_some _ e, fun _ _ _ h => h, fun _ _ _ h => h, fun _ o e => ⟨o, Heap.get?_push_of_some _ e⟩⟩

theorem not_W_new (r : SR G c st vs s) : ¬ c.W s.heap.objs.size := fun q => by
  obtain ⟨o, e⟩ := r.wIn _ q
  rw [size_none] at e; cases e

theorem iter_sound {loc : Bool} {tgt : Expr} {store : PyData → St → Option St} {body : List Stmt} {Fb : SF} (T : Tgt G sc vars n loc tgt store) (hb : SSs G sc vars n body Fb)
    (hsc : c.env.scope = sc) (hv : c.vars = vars) (hown : c.ownc = true) (S : Surr G c n A) (r : SR G c st vs s) {xs : List PyData} {o : Out SRes} (eo : sLoop store Fb xs st = o) (ns : o ≠ .stuck)
    {ax : Addr} {items : Array Value} {k : Nat} (he : s.heap.get? ax = some (LObj items k) ∨ s.heap.get? ax = some (TObj items k)) (rd : RdAll G.w s.heap (c.Ban st.ρ vs) items.toList xs) (nb : ¬ c.BanM st.ρ vs ax) :
    wpAny G.M A (pyIter (.ref ax)) (fun it s2 => codeAny G.M A (.forLoop tgt it body [] c.env) (fun r s' => match r with | .ok f => QS G c st vs s o f s' | .error e => cameBackBy G.M A c.env (EE G c o) e s') s2) E s := by
  have l := rd.length
  simp only [Array.length_toList] at l
  have hin : c.hin.get? s.heap.objs.size = none := hin_none r (size_none _)
  have hW := not_W_new r
  have hne : ax ≠ s.heap.objs.size := by rcases he with e | e <;> exact Nat.ne_of_lt (Heap.lt_size e)
  have hax : ∃ o, s.heap.get? ax = some o := by rcases he with e | e <;> exact ⟨_, e⟩
  have hfp : ∀ b ∈ [s.heap.objs.size, ax], b ≠ s.heap.objs.size → ¬ c.BanM st.ρ vs b ∧ ∃ o, s.heap.get? b = some o := by
    intro b hb q
    simp only [List.mem_cons, List.not_mem_nil, or_false] at hb
    rcases hb with rfl | rfl
    · exact absurd rfl q
    · exact ⟨nb, hax⟩
  have hP : ∀ i v, i < xs.length → items[i]? = some v → ∃ x, xs[i]? = some x ∧ Rd G.w s.heap (c.Ban st.ρ vs) v x := fun i v _ e => rd.getV (by rw [Array.getElem?_toList]; exact e)
  rcases he with e | e
  · refine wpAny_pyIter_list ⟨_, e, rfl, _, rfl⟩ ?_
    have W := Walks.list (prog := G.prog) (w := G.w) (A := A) S.hh s.heap.objs.size ax hne items
    rw [l] at W
    exact loopCore T hb hsc hv hown S (r.keepAll (s' := { s with heap := s.heap.push _ }) S.ok (KeepAll.push _ _) ⟨rfl, rfl, rfl⟩) eo ns W ⟨⟨_, Heap.get?_push_size _ rfl, rfl, rfl⟩, ⟨_, Heap.get?_push_of_some _ e, rfl, _, rfl⟩⟩
      (Kp.push (tk := s.toks)) (size_none _) hin hW (fun i h q => let ⟨⟨o, a, b, d⟩, _⟩ := q; ⟨o, _, _, a, b, d, by decide⟩) hfp hP
  · refine wpAny_pyIter_tuple ⟨_, e, rfl, _, rfl⟩ ?_
    have W := Walks.tuple (prog := G.prog) (w := G.w) (A := A) S.hh s.heap.objs.size ax hne items
    rw [l] at W
    exact loopCore T hb hsc hv hown S (r.keepAll (s' := { s with heap := s.heap.push _ }) S.ok (KeepAll.push _ _) ⟨rfl, rfl, rfl⟩) eo ns W ⟨⟨_, Heap.get?_push_size _ rfl, rfl, rfl⟩, ⟨_, Heap.get?_push_of_some _ e, rfl, _, rfl⟩⟩
      (Kp.push (tk := s.toks)) (size_none _) hin hW (fun i h q => let ⟨⟨o, a, b, d⟩, _⟩ := q; ⟨o, _, _, a, b, d, by decide⟩) hfp hP

theorem cameBack_mono {env : Env} {E E' : Value → Shared → Prop} {e : Value} (h : cameBackBy M A env E e s) (k : ∀ e s', E e s' → E' e s') : cameBackBy M A env E' e s := by
  unfold cameBackBy at h ⊢
  exact wpAny_mono h (fun _ _ q => k _ _ q) fun _ _ q => k _ _ q

theorem SR.lend {i : Nat} (r : SR G c st vs s) (hi : st.ρ[i]? = some (.own x)) : SR G c ⟨st.ρ.set i (.lent x), st.ts⟩ vs s ∧ Kp c st vs s ⟨st.ρ.set i (.lent x), st.ts⟩ vs s ∧ (∀ b, c.Ban (st.ρ.set i (.lent x)) vs b → c.Ban st.ρ vs b) := by
  have ban1 : ∀ b, c.Ban (st.ρ.set i (.lent x)) vs b → c.Ban st.ρ vs b := by
    intro b hb
    rcases hb with h | h | h | ⟨j, sl, y, h1, h2, h3⟩
    · exact .inl h
    · exact .inr (.inl h)
    · exact .inr (.inr (.inl h))
    · by_cases q : j = i
      · subst q; exact .inr (.inr (.inr ⟨j, _, x, hi, rfl, h3⟩))
      · exact .inr (.inr (.inr ⟨j, sl, y, set_other h1 q, h2, h3⟩))
  have banM1 : ∀ b, c.BanM (st.ρ.set i (.lent x)) vs b → c.BanM st.ρ vs b := by
    intro b hb
    rcases hb with h | h | h | ⟨j, y, h1, h3⟩
    · exact .inl h
    · exact .inr (.inl h)
    · exact .inr (.inr (.inl h))
    · by_cases q : j = i
      · subst q; exact .inr (.inr (.inr ⟨j, x, hi, h3⟩))
      · exact .inr (.inr (.inr ⟨j, y, set_other h1 q, h3⟩))
  refine ⟨⟨by simpa using r.len, fun j n2 sl h1 h2 => ?_, fun j sl h => ?_, fun p q sp sq xp xq hpq hp hq h1 h2 => ?_, r.tape, r.keep, r.frames, r.rest, r.wIn, r.nsL⟩, ⟨fun _ _ e _ => e, fun b _ _ h => banM1 b h, fun b _ _ h => ban1 b h, fun _ o e => ⟨o, e⟩⟩, ban1⟩
  · by_cases q : j = i
    · subst q
      cases set_self h2
      exact (r.var j n2 _ h1 hi : VarAt _ _ _ (some _))
    · exact r.var j n2 sl h1 (set_other h2 q)
  · by_cases q : j = i
    · subst q
      cases set_self h
      have z := (r.slot j _ hi).mono ban1
      exact z
    · exact (r.slot j sl (set_other h q)).mono ban1
  · by_cases ep : p = i
    · subst ep
      cases set_self hp
      exact r.uniq p q _ sq x xq hpq hi (set_other hq (Ne.symm hpq)) rfl h2
    · by_cases eq : q = i
      · subst eq
        cases set_self hq
        exact r.uniq p q sp _ xp x hpq (set_other hp ep) hi h1 rfl
      · exact r.uniq p q sp sq xp xq hpq (set_other hp ep) (set_other hq eq) h1 h2
theorem SR.unlend {i : Nat} (r : SR G c st vs s) (hi : st.ρ[i]? = some (.lent x)) : SR G c ⟨st.ρ.set i (.own x), st.ts⟩ vs s ∧ (∀ b, c.Ban (st.ρ.set i (.own x)) vs b → c.Ban st.ρ vs b) := by
  have ban1 : ∀ b, c.Ban (st.ρ.set i (.own x)) vs b → c.Ban st.ρ vs b := by
    intro b hb
    rcases hb with h | h | h | ⟨j, sl, y, h1, h2, h3⟩
    · exact .inl h
    · exact .inr (.inl h)
    · exact .inr (.inr (.inl h))
    · by_cases q : j = i
      · subst q; exact .inr (.inr (.inr ⟨j, _, x, hi, rfl, h3⟩))
      · exact .inr (.inr (.inr ⟨j, sl, y, set_other h1 q, h2, h3⟩))
  refine ⟨⟨by simpa using r.len, fun j n2 sl h1 h2 => ?_, fun j sl h => ?_, fun p q sp sq xp xq hpq hp hq h1 h2 => ?_, r.tape, r.keep, r.frames, r.rest, r.wIn, r.nsL⟩, ban1⟩
  · by_cases q : j = i
    · subst q
      cases set_self h2
      exact (r.var j n2 _ h1 hi : VarAt _ _ _ (some _))
    · exact r.var j n2 sl h1 (set_other h2 q)
  · by_cases q : j = i
    · subst q
      cases set_self h
      have z := (r.slot j _ hi).mono ban1
      exact z
    · exact (r.slot j sl (set_other h q)).mono ban1
  · by_cases ep : p = i
    · subst ep
      cases set_self hp
      exact r.uniq p q _ sq x xq hpq hi (set_other hq (Ne.symm hpq)) rfl h2
    · by_cases eq : q = i
      · subst eq
        cases set_self hq
        exact r.uniq p q sp _ xp x hpq (set_other hp ep) hi h1 rfl
      · exact r.uniq p q sp sq xp xq hpq (set_other hp ep) (set_other hq eq) h1 h2

theorem own_not_banM {i : Nat} {a : Addr} (ok : c.Ok G) (r : SR G c st vs s) (hi : st.ρ[i]? = some (.own x)) (ha : vs i = .ref a) : ¬ c.BanM (st.ρ.set i (.lent x)) vs a := by
  obtain ⟨a', ea, t, f1, f2⟩ := r.slot i _ hi
  rw [ha] at ea; cases ea
  rintro (h | h | h | ⟨j, y, h1, h3⟩)
  · obtain ⟨o, e⟩ := ok.Bin a h; rw [f1] at e; cases e
  · exact f2 h
  · exact SR.own_ne ok f1 h
  · by_cases q : j = i
    · subst q; cases set_self h1
    · exact r.uniq j i _ _ y x q (set_other h1 q) hi rfl rfl (h3.trans ha.symm)

theorem banM_of_noLent (h : st.ρ.all Slot.notLent = true) {b : Addr} (hb : c.Ban st.ρ vs b) : c.BanM st.ρ vs b := by
  rcases hb with h1 | h1 | h1 | ⟨j, sl, y, h1, h2, h3⟩
  · exact .inl h1
  · exact .inr (.inl h1)
  · exact .inr (.inr (.inl h1))
  · have := List.all_eq_true.mp h sl (List.mem_of_getElem? h1)
    cases sl with
    | own z => exact .inr (.inr (.inr ⟨j, z, h1, h3⟩))
    | lent z => simp [Slot.notLent] at this
    | _ => simp [Slot.owned] at h2

theorem SS_for {loc : Bool} {tgt iter : Expr} {body : List Stmt} {p : Pos} {Fi : EF} {store : PyData → St → Option St} {Fb : SF} (hi : SE G sc vars n iter Fi) (T : Tgt G sc vars n loc tgt store) (hb : SSs G sc vars n body Fb)
    (hs : ∀ env x, foldedSetIterable iter env x = pure x) : SS G sc vars n (.For tgt iter body [] p) (sFor Fi store Fb) := by
  intro c A st vs s hsc hv hown S r ns
  obtain ⟨o, eo⟩ : ∃ o, sFor Fi store Fb st = o := ⟨_, rfl⟩
  rw [eo] at ns ⊢
  refine wpAny_For ?_ (hs _)
  refine hi.use hsc hv S r eo ns fun av st1 v1 s1 ho q1 q2 q3 q4 q5 => ?_
  have kp := Kp.eval S.ok q2 q3 q1
  have goD : ∀ {d : PyData}, Rd G.w s1.heap (c.Ban st1.ρ vs) v1 d → sForD d store Fb st1 = o → wpAny G.M A (pyIter v1) (fun it s2 => codeAny G.M A (.forLoop tgt it body [] c.env) (fun r s' => match r with | .ok f => QS G c st vs s o f s' | .error e => cameBackBy G.M A c.env (EE G c o) e s') s2) (EE G c o) s1 := by
    intro d rd ho
    unfold sForD at ho
    cases ei : itemsD d with
    | none => rw [ei] at ho; exact absurd ho.symm ns
    | some xs =>
      rw [ei] at ho
      simp only at ho
      have fin : ∀ {ax items k}, v1 = .ref ax → (s1.heap.get? ax = some (LObj items k) ∨ s1.heap.get? ax = some (TObj items k)) → RdAll G.w s1.heap (c.Ban st1.ρ vs) items.toList xs → ¬ c.Ban st1.ρ vs ax →
          wpAny G.M A (pyIter v1) (fun it s2 => codeAny G.M A (.forLoop tgt it body [] c.env) (fun r s' => match r with | .ok f => QS G c st vs s o f s' | .error e => cameBackBy G.M A c.env (EE G c o) e s') s2) (EE G c o) s1 := by
        rintro ax items k rfl he rr nb
        refine wpAny_mono (iter_sound T hb hsc hv hown S q1 ho ns he rr (fun q => nb (banM_ban q))) (fun it s2 q => codeAny_mono q fun r s' z => ?_) fun _ _ e => e
        cases r with
        | ok f => exact QS.trans z kp
        | error e => exact z
      cases rd with
      | list e nb rr => simp only [itemsD, Option.some.injEq] at ei; subst ei; exact fin rfl (.inl e) rr nb
      | tuple e nb rr => simp only [itemsD, Option.some.injEq] at ei; subst ei; exact fin rfl (.inr e) rr nb
      | _ => simp [itemsD] at ei
  cases av with
  | tape => exact absurd ho.symm ns
  | dat d f => exact goD q4 ho
  | var i =>
    obtain ⟨e1, sl, d, hsl, hd⟩ := id q4
    simp only [hsl] at ho
    rcases hd with rfl | rfl
    · cases d with
      | list xs =>
        simp only [sForOwn] at ho
        split at ho
        · rename_i hnl
          obtain ⟨a, ea, t, f1, f2⟩ := q1.slot i _ hsl
          obtain ⟨r1, k1, ban1⟩ := q1.lend hsl
          have t1 := t.mono (h' := s1.heap) (B' := c.Ban (st1.ρ.set i (.lent (.list xs))) vs) (fun b o e nb => ⟨e, fun q => nb (ban1 b q)⟩) fun _ e => e
          rw [e1, ea]
          cases t1 with
          | @list items k _ eh rr =>
            obtain ⟨o1, eo1⟩ : ∃ o1, sLoop store Fb xs ⟨st1.ρ.set i (.lent (.list xs)), st1.ts⟩ = o1 := ⟨_, rfl⟩
            rw [eo1] at ho
            have ns1 : o1 ≠ .stuck := fun q => by rw [q] at ho; exact ns ho.symm
            refine wpAny_mono (iter_sound T hb hsc hv hown S r1 eo1 ns1 (.inl eh) rr (own_not_banM S.ok q1 hsl ea)) (fun it s2 q => codeAny_mono q fun r s' z => ?_) fun _ _ e => e
            cases r with
            | error e =>
              refine cameBack_mono z fun e s' q => ?_
              obtain ⟨qa, qb⟩ := q
              rw [qa] at ho
              exact ⟨ho.symm, qb⟩
            | ok f =>
              cases o1 with
              | raise => cases z
              | stuck => cases z
              | ok res st2 =>
                cases res with
                | ret y fr =>
                  have ho' : Out.ok (.ret y fr) st2 = o := ho
                  rw [← ho']
                  exact z
                | next =>
                  obtain ⟨rfl, vs2, r2, k2⟩ := z
                  have ho' : unlend i st2 = o := ho
                  unfold unlend at ho'
                  split at ho'
                  · rename_i x hx
                    subst ho'
                    obtain ⟨r3, ban3⟩ := r2.unlend hx
                    refine ⟨rfl, vs2, r3, ?_⟩
                    have k3 := k1.trans k2
                    refine kp.trans ⟨k3.keep, fun b ob e hb => ?_, fun b ob e hb => k3.mB b ob e (ban3 b hb), k3.live⟩
                    exact banM_of_noLent hnl (k3.mB b ob e (ban3 b (banM_ban hb)))
                  · exact absurd ho'.symm ns
        · exact absurd ho.symm ns
      | _ => exact absurd ho.symm ns
    · have z := q1.slot i _ hsl
      exact goD (d := d) (by rw [e1]; exact z) ho

theorem SS_forR {loc : Bool} {tgt e : Expr} {body : List Stmt} {p p1 p2 : Pos} {Fe : EF} {store : PyData → St → Option St} {Fb : SF} (h : SE G sc vars n e Fe) (hse : ∀ env rest, starEach (e :: rest) env = (false, eval e env) :: starEach rest env) (T : Tgt G sc vars n loc tgt store) (hb : SSs G sc vars n body Fb)
    (hg : G.mg "range" = none) (hk : sc.names.lookup ("range" : Str) = some .globalImplicit)
    (hs : ∀ env x, foldedSetIterable (.Call (.Name "range" p1) [e] [] p2) env x = pure x) : SS G sc vars n (.For tgt (.Call (.Name "range" p1) [e] [] p2) body [] p) (sForR Fe store Fb) := by
  intro c A st vs s hsc hv hown S r ns
  obtain ⟨o, eo⟩ : ∃ o, sForR Fe store Fb st = o := ⟨_, rfl⟩
  rw [eo] at ns ⊢
  refine wpAny_For ?_ (hs _)
  have SA1 : SAs G sc vars n [e] [Fe] := .cons h hse .nil
  refine Call_Name (trees := backTo p2 (starEach [e] c.env)) rfl (load_builtin hsc S r hg (b := .type "range") rfl (by decide) hk (by decide) ?_)
  have es : starEach [e] c.env = [(false, eval e c.env)] := by rw [hse]; rfl
  refine cw_type _ _ _ _ _ _ (by rw [es]; rfl) ?_
  rw [es]
  refine evalArgs_plain (spliced_cons ?_)
  refine h.use hsc hv S r eo ns fun av st1 v1 s1 ho q1 q2 q3 q4 q5 => spliced_nil ?_
  have kp := Kp.eval S.ok q2 q3 q1
  cases ea : av.data st1 with
  | none => rw [ea] at ho; exact absurd ho.symm ns
  | some xa =>
    have rv := q4.readV q1 ea
    rw [ea] at ho
    cases xa <;> first | exact absurd ho.symm ns | skip
    rename_i m
    obtain ⟨u, rfl⟩ := rv.int_inv
    simp only at ho
    split at ho
    case isFalse => exact absurd ho.symm ns
    rename_i hm
    refine call_range_1 ?_
    obtain ⟨s2, es2⟩ : ∃ s2 : Shared, s2 = { s1 with heap := s1.heap.push { cls := .type "range", data := .fields #[.int 0 s1.toks, .int m u, .int 1 (s1.toks + 1)] }, toks := s1.toks + 1 + 1 } := ⟨_, rfl⟩
    have r2 : SR G c st1 vs s2 := by subst es2; exact q1.keepAll S.ok (KeepAll.push _ _) ⟨rfl, rfl, rfl⟩
    have k2 : Kp c st1 vs s1 st1 vs s2 := by subst es2; exact Kp.push
    have hr : IsRange s2.heap s1.heap.objs.size 0 m 1 s1.toks u (s1.toks + 1) := by subst es2; exact IsRange.new _ _ _ _ _ _ _
    rw [← es2]
    refine wpAny_pyIter_range hr (small_one (by decide) (by decide) (by omega) (by omega)) ?_
    have hsz : Builtin.Range.rangeSize 0 m 1 = (m.toNat : Int) := by rw [rangeSize_one]; split <;> omega
    rw [hsz]
    have W := Walks.range (prog := G.prog) (w := G.w) (A := A) S.hh s2.heap.objs.size 0 1 m.toNat
    have hxl : ((List.range m.toNat).map fun (k : Nat) => PyData.int k).length = m.toNat := by simp
    refine codeAny_mono (loopCore (s0 := s2) T hb hsc hv hown S (r2.keepAll (s' := { s2 with heap := s2.heap.push _ }) S.ok (KeepAll.push _ _) ⟨rfl, rfl, rfl⟩) ho ns (by rw [hxl]; exact W) (by simpa using Heap.get?_push_size s2.heap rfl) (Kp.push (tk := s2.toks)) (size_none _) (hin_none r2 (size_none _)) (not_W_new r2)
      (fun i h q => ⟨_, _, _, q, rfl, rfl, by decide⟩) (fun b hb q => ?_) (fun i v hi hv => ?_)) fun r s' z => ?_
    · simp only [List.mem_cons, List.not_mem_nil, or_false] at hb
      exact absurd hb q
    · obtain ⟨t, rfl⟩ := hv
      rw [hxl] at hi
      refine ⟨.int i, by simp [hi], ?_⟩
      have : (0 : Int) + (i : Int) * 1 = i := by omega
      rw [this]
      exact .int _ _
    · cases r with
      | ok f => exact QS.trans z (kp.trans k2)
      | error e => exact z
end
end Mine
namespace Mine
open PySem PySem.W PySem.Calls PyProof.Rows

theorem call_cellsB {prog : Program} {w : World} {A : Around} {s : Shared} {R : Result → Shared → Prop} {a : Addr} {o : Obj} {fd : FuncData} {body : List Stmt} {vals : List Value} {binds : List (Str × Value)}
    (hroom : A.depth < recursionLimit) (ho : s.heap.get? a = some o) (hdata : o.data = .func fd) (hlim : s.heap.NoLimit) (hcd : s.heap.CodeRec fd.code fd.qualname)
    (hbody : fd.body = .stmts body) (hbind : BindsTo s fd ⟨vals, []⟩ binds) (hclo : fd.closure = [])
    (hkind : ∀ x ∈ binds, fd.scope.names.lookup x.1 = some .local ∨ (fd.scope.names.lookup x.1 = some .cell ∧ ((cellsFrom (s.heap.objs.size + 1) fd.scope.names []).lookup x.1).isSome = true))
    (h : ∀ s₁, InCallC s (callEnvC fd s.heap.objs.size a).locals (bindL (callEnvC fd s.heap.objs.size a).kindOf binds fun _ => none) (callEnvC fd s.heap.objs.size a).cells
        (bindC (callEnvC fd s.heap.objs.size a).kindOf binds fun _ => none) s₁ →
      wpAny (model prog w) (A.deeper (callEnvC fd s.heap.objs.size a)) (execs body (callEnvC fd s.heap.objs.size a)) (fun f s' => R (.ok (.ret (match f with | .ret v => v | _ => .none))) s')
        (fun e s' => wpAny (model prog w) (A.deeper (callEnvC fd s.heap.objs.size a)) (leaving (callEnvC fd s.heap.objs.size a) e) (fun _ s'' => R (.error e) s'') (fun e' s'' => R (.error e') s'') s') s₁)
    (hco : fd.scope.isCoroutine = false) (hgen : fd.scope.isGenerator = false) (hk : fd.scope.kind = .function) :
    codeAny (model prog w) A (.call (.ref a) ⟨vals, []⟩) R s := by
  refine codeAny_call_function hroom ho hdata hco hgen hbody hcd (hbind _ _ _ _ ?_)
  rw [hclo]
  refine wpAny_newFunctionEnv_cells hk hkind fun env he s' x => ?_
  subst he
  exact ⟨hlim.keeps x.toInCall.keep, codeAny_func (h s' x)⟩

structure DefAt (G : GC) (fa : Addr) (fd : FuncData) (body : List Stmt) (params : List Str) (k : Nat) (dflt : List Value) : Prop where
  obj : ∃ o, G.H.get? fa = some o ∧ o.data = .func fd
  code : G.H.CodeRec fd.code fd.qualname
  body : fd.body = .stmts body
  clo : fd.closure = []
  glob : fd.globals = mainGlobals
  blt : fd.builtins = builtinsNs
  bind : ∀ (s : Shared) (vals : List Value), KeepAll G.H s.heap → vals.length = k → BindsTo s fd ⟨vals, []⟩ (params.zip (vals ++ dflt))
  co : fd.scope.isCoroutine = false
  gen : fd.scope.isGenerator = false
  kind : fd.scope.kind = .function
  len : params.length = k + dflt.length

noncomputable def Arg.slot : Arg → Slot
  | .sh x => .sh x
  | .tape => .tape
noncomputable def fnOfS (k nl : Nat) (dflt : List Arg) (Fb : SF) : Fn := fun args ts =>
  if args.length = k then match Fb ⟨(args ++ dflt).map Arg.slot ++ List.replicate nl .unset, ts⟩ with
    | .ok (.ret x f) st => .ok x f st.ts
    | .ok .next st => .ok .none false st.ts
    | .raise => .raise
    | .stuck => .stuck
  else .stuck

theorem bindL_out {kindOf : Str → Option NameKind} : ∀ {l : List (Str × Value)} {m : Str → Option Value} {y : Str}, y ∉ l.map (·.1) → bindL kindOf l m y = m y := by
  intro x_
  induction x_ with
  | nil =>
    intro _ _ _
    exact rfl
  | cons h0_ r ih =>
    obtain ⟨n, w⟩ := h0_
    intro m y h
    simp only [List.map_cons, List.mem_cons, not_or] at h
    unfold bindL
    rw [ih h.2]
    split
    · exact if_neg h.1
    · rfl
theorem bindC_out {kindOf : Str → Option NameKind} : ∀ {l : List (Str × Value)} {m : Str → Option Value} {y : Str}, y ∉ l.map (·.1) → bindC kindOf l m y = m y := by
  intro x_
  induction x_ with
  | nil =>
    intro _ _ _
    exact rfl
  | cons h0_ r ih =>
    obtain ⟨n, w⟩ := h0_
    intro m y h
    simp only [List.map_cons, List.mem_cons, not_or] at h
    unfold bindC
    rw [ih h.2]
    split
    · rfl
    · exact if_neg h.1
theorem bindL_in {kindOf : Str → Option NameKind} : ∀ {l : List (Str × Value)} {m : Str → Option Value} {y : Str} {v : Value}, (l.map (·.1)).Nodup → (y, v) ∈ l → kindOf y = some .local → bindL kindOf l m y = some v := by
  intro x_
  induction x_ with
  | nil => intro _ _ _ _ h; exact nomatch h
  | cons h0_ r ih =>
    obtain ⟨n, w⟩ := h0_
    intro m y v nd h hk
    simp only [List.map_cons, List.nodup_cons] at nd
    unfold bindL
    rcases List.mem_cons.mp h with e | h
    · cases e
      rw [bindL_out nd.1, if_pos hk, if_pos rfl]
    · exact ih nd.2 h hk
theorem bindC_in {kindOf : Str → Option NameKind} : ∀ {l : List (Str × Value)} {m : Str → Option Value} {y : Str} {v : Value}, (l.map (·.1)).Nodup → (y, v) ∈ l → kindOf y = some .cell → bindC kindOf l m y = some v := by
  intro x_
  induction x_ with
  | nil => intro _ _ _ _ h; exact nomatch h
  | cons h0_ r ih =>
    obtain ⟨n, w⟩ := h0_
    intro m y v nd h hk
    simp only [List.map_cons, List.nodup_cons] at nd
    unfold bindC
    rcases List.mem_cons.mp h with e | h
    · cases e
      rw [bindC_out nd.1, if_neg (by rw [hk]; decide), if_pos rfl]
    · exact ih nd.2 h hk

theorem setLt'' {α : Type} {l : List α} {i : Nat} {a : α} (h : l[i]? = some a) : i < l.length := (List.getElem?_eq_some_iff.mp h).1
theorem lookup_isSome_of_mem {α : Type} : ∀ {l : List (Str × α)} {n : Str}, n ∈ l.map (·.1) → (l.lookup n).isSome = true := by
  intro x_
  induction x_ with
  | nil => intro _ h; exact nomatch h
  | cons h0_ r ih =>
    obtain ⟨k, v⟩ := h0_
    intro n h
    rw [List.lookup_cons]
    cases hb : n == k with
    | true => rfl
    | false =>
      rcases List.mem_cons.mp h with e | h
      · simp at e; subst e; simp at hb
      · exact ih h

inductive ArgsD (w : World) (h : Heap) : List Value → List Arg → Prop
  | nil : ArgsD w h [] []
  | cons {v x vs as} : (∀ B, Rd w h B v x) → ArgsD w h vs as → ArgsD w h (v :: vs) (.sh x :: as)

theorem ArgsR.append {w : World} {h : Heap} {B : Addr → Prop} {τ : Addr} {dv : List Value} {da : List Arg} (D : ArgsD w h dv da) : ∀ {vs : List Value} {as : List Arg}, ArgsR w h B τ vs as → ArgsR w h B τ (vs ++ dv) (as ++ da) := by
  intro vs as H
  induction H with
  | nil =>
    induction D with
    | nil => exact .nil
    | cons r _ ih => exact .cons (.sh (r B)) ih
  | cons a _ ih => exact .cons a ih
theorem ArgsR.length {w : World} {h : Heap} {B : Addr → Prop} {τ : Addr} : ∀ {vs : List Value} {as : List Arg}, ArgsR w h B τ vs as → vs.length = as.length := by
  intro vs as H
  induction H with
  | nil => rfl
  | cons _ _ ih => exact congrArg (· + 1) ih
theorem ArgsR.get {w : World} {h : Heap} {B : Addr → Prop} {τ : Addr} : ∀ {vs : List Value} {as : List Arg} {i : Nat} {a : Arg}, ArgsR w h B τ vs as → as[i]? = some a → ∃ v, vs[i]? = some v ∧ ArgR w h B τ v a := by
  intro vs as i a H
  induction H generalizing i with
  | nil => intro e; cases e
  | cons r _ ih =>
    intro e
    cases i with
    | zero => cases e; exact ⟨_, rfl, r⟩
    | succ i => exact ih e

theorem fnSpec_of {G : GC} {n : Nat} {fa : Addr} {fd : FuncData} {body : List Stmt} {params locs : List Str} {k : Nat} {dv : List Value} {da : List Arg} {Fb : SF} (D : DefAt G fa fd body params k dv) (Dd : ∀ w h, ArgsD w h dv da)
    (hvars : ∀ x ∈ params ++ locs, fd.scope.names.lookup x = some .local ∨ (fd.scope.names.lookup x = some .cell ∧ x ∈ (cellsFrom 0 fd.scope.names []).map (·.1))) (hnd : (params ++ locs).Nodup)
    (hb : SSs G fd.scope (params ++ locs) n body Fb) : FnSpec G (n + 1) fa (fnOfS k locs.length da Fb) := by
  intro A outer τ B args vals ts s pre hargs ns
  refine hide fun b_ hb_ => ?_
  obtain ⟨o, ho, hdata⟩ := D.obj
  have hA := hargs.append (Dd G.w s.heap)
  have hlen := hargs.length
  have hdl : dv.length = da.length := (ArgsR.append (B := B) (τ := τ) (Dd G.w s.heap) .nil).length
  obtain ⟨r, er⟩ : ∃ r, fnOfS k locs.length da Fb args ts = r := ⟨_, rfl⟩
  refine hb_ ?_
  rw [er] at ns ⊢
  unfold fnOfS at er
  split at er
  case isFalse => exact absurd er.symm ns
  rename_i hk
  let st : St := ⟨(args ++ da).map Arg.slot ++ List.replicate locs.length .unset, ts⟩
  change (match Fb st with | .ok (.ret x f) st => Ret.ok x f st.ts | .ok .next st => .ok .none false st.ts | .raise => .raise | .stuck => .stuck) = r at er
  have hroom : A.depth < recursionLimit := by have := pre.room.1; omega
  have hkind : ∀ x ∈ params ++ locs, fd.scope.names.lookup x = some .local ∨ (fd.scope.names.lookup x = some .cell ∧ ((cellsFrom (s.heap.objs.size + 1) fd.scope.names []).lookup x).isSome = true) := by
    intro x hx
    rcases hvars x hx with h | ⟨h1, h2⟩
    · exact .inl h
    · refine .inr ⟨h1, lookup_isSome_of_mem ?_⟩
      rw [cellsFrom_names fd.scope.names (s.heap.objs.size + 1) 0 [] [] rfl]
      exact h2
  have hzip : params.length = (vals ++ dv).length := by rw [List.length_append, D.len, hlen, hk]
  have hzm : (params.zip (vals ++ dv)).map (·.1) = params := by rw [List.map_fst_zip]; omega
  refine wpAny_call (call_cellsB hroom (pre.base _ _ ho) hdata (pre.gok.nolimit.keeps pre.base) (D.code.keeps pre.base) D.body (D.bind s vals pre.base (by omega)) D.clo (fun x hx => ?_) (fun s₁ X => ?_) D.co D.gen D.kind)
  · refine hkind x.1 (List.mem_append_left _ ?_)
    rw [← hzm]
    exact List.mem_map.mpr ⟨x, hx, rfl⟩
  let env := callEnvC fd s.heap.objs.size fa
  have hL : env.locals = s.heap.objs.size := rfl
  have hfr : env.frame = some s.heap.objs.size := rfl
  have hsc : env.scope = fd.scope := rfl
  have hko : ∀ x, env.kindOf x = fd.scope.names.lookup x := fun x => rfl
  refine hide fun b_ hb_ => ?_
  obtain ⟨h1, tk1, es1⟩ := X.toInCall.same
  have kA : KeepAll s.heap s₁.heap := X.toInCall.keep
  obtain ⟨τo, τn, τe, τi⟩ := pre.tape
  refine hb_ ?_
  let c : FC := ⟨env, env, outer, s.heap.objs.size, τ, B, (fun b => b = s.heap.objs.size ∨ ∃ n, env.cells.lookup n = some b), s.heap, params ++ locs, true, s.gens, s.drawn, s.os⟩
  have cellNew : ∀ n b, (n, b) ∈ env.cells → s.heap.get? b = none := fun n b hm => Heap.get?_none_of_le (Nat.le_of_lt (X.above n b hm))
  have cW : ∀ b, c.W b → s.heap.get? b = none := by
    rintro b (rfl | ⟨n, hm⟩)
    · exact size_none _
    · exact cellNew n b (mem_of_lookup hm)
  have cok : c.Ok G := ⟨D.kind, D.glob, D.blt, hL, rfl, pre.base, pre.τH, ⟨_, τe⟩, pre.Bin, cW, .inl rfl, ⟨_, hfr⟩, hnd, fun n n' ca h1 h2 => name_of_addr X.apart (mem_of_lookup h1) (mem_of_lookup h2), fun _ n ca h => .inr ⟨n, h⟩⟩
  have hslot : ∀ (i : Nat) (sl : Slot), st.ρ[i]? = some sl → (∃ a, (args ++ da)[i]? = some a ∧ sl = a.slot) ∨ (params.length ≤ i ∧ sl = .unset) := by
    intro i sl hs
    change ((args ++ da).map Arg.slot ++ List.replicate locs.length Slot.unset)[i]? = some sl at hs
    by_cases hi : i < ((args ++ da).map Arg.slot).length
    · rw [List.getElem?_append_left hi, List.getElem?_map] at hs
      obtain ⟨a, ea, eb⟩ := Option.map_eq_some_iff.mp hs
      exact .inl ⟨a, ea, eb.symm⟩
    · rw [List.getElem?_append_right (by omega), List.getElem?_replicate] at hs
      split at hs
      · refine .inr ⟨?_, (Option.some.inj hs).symm⟩
        simp only [List.length_map, List.length_append] at hi
        rw [D.len]; omega
      · cases hs
  have noOwn : ∀ (i : Nat) (sl : Slot) (x : PyData), st.ρ[i]? = some sl → sl.owned = some x → False := by
    intro i sl x hs ho
    rcases hslot i sl hs with ⟨a, _, rfl⟩ | ⟨_, rfl⟩
    · cases a <;> simp [Arg.slot, Slot.owned] at ho
    · simp [Slot.owned] at ho
  let vs : Nat → Value := fun i => ((vals ++ dv)[i]?).getD .none
  have hvi : ∀ {i v}, (vals ++ dv)[i]? = some v → vs i = v := fun {i v} e => by show ((vals ++ dv)[i]?).getD .none = v; rw [e]; rfl
  have sr : SR G c st vs s₁ := by
    refine ⟨?_, fun i n sl h1 h2 => ?_, fun i sl h => ?_, fun i j si sj x y _ h1 _ h2 => (noOwn i si x h1 h2).elim, ?_, ?_, ?_, ?_, fun b hb => ?_, ?_⟩
    · show ((args ++ da).map Arg.slot ++ List.replicate locs.length Slot.unset).length = (params ++ locs).length
      rw [List.length_append, List.length_map, List.length_append, List.length_replicate, List.length_append, D.len]
      omega
    · have hmem : n ∈ params ++ locs := List.mem_of_getElem? h1
      have hbd : ∀ {ov : Option Value}, (env.kindOf n = some .local → bindL env.kindOf (params.zip (vals ++ dv)) (fun _ => none) n = ov) → (env.kindOf n = some .cell → bindC env.kindOf (params.zip (vals ++ dv)) (fun _ => none) n = ov) → VarAt s₁.heap c.env n ov := by
        intro ov a b
        unfold VarAt
        rcases hkind n hmem with hl | ⟨hc, hs⟩
        · rw [show c.env.kindOf n = _ from hl]
          exact ⟨_, X.toInCall.ns, a hl⟩
        · rw [show c.env.kindOf n = _ from hc]
          obtain ⟨ca, hca⟩ := Option.isSome_iff_exists.mp hs
          exact ⟨ca, hca, b hc ▸ X.cell n ca hca⟩
      rcases hslot i sl h2 with ⟨a, ea, rfl⟩ | ⟨hi, rfl⟩
      · obtain ⟨v, ev, _⟩ := hA.get ea
        have hi : i < params.length := by
          have := setLt'' ea
          rw [List.length_append] at this
          rw [D.len]; omega
        have en : params[i]? = some n := (List.getElem?_append_left hi).symm.trans h1
        have hm : (n, v) ∈ params.zip (vals ++ dv) := List.mem_of_getElem? (i := i) (by rw [List.getElem?_zip_eq_some]; exact ⟨en, ev⟩)
        have hov : a.slot.ov (vs i) = some v := by rw [hvi ev]; cases a <;> rfl
        have hnd' : ((params.zip (vals ++ dv)).map (·.1)).Nodup := by rw [hzm]; exact (List.nodup_append.mp hnd).1
        rw [hov]
        exact hbd (fun q => bindL_in hnd' hm q) (fun q => bindC_in hnd' hm q)
      · have hn : n ∉ (params.zip (vals ++ dv)).map (·.1) := by
          rw [hzm]
          intro q
          have e2 : locs[i - params.length]? = some n := (List.getElem?_append_right hi).symm.trans h1
          exact (List.nodup_append.mp hnd).2.2 n q n (List.mem_of_getElem? e2) rfl
        exact hbd (fun _ => bindL_out hn) (fun _ => bindC_out hn)
    · rcases hslot i sl h with ⟨a, ea, rfl⟩ | ⟨hi, rfl⟩
      · obtain ⟨v, ev, ra⟩ := hA.get ea
        rw [hvi ev]
        cases ra with
        | tape => rfl
        | sh rd =>
          show Rd _ _ _ _ _
          refine rd.mono fun b o e nb => ⟨kA b o e, fun q => ?_⟩
          rcases q with q | q | q | ⟨j, sl, y, h1, h2, _⟩
          · exact nb q
          · rw [cW b q] at e; cases e
          · exact nb (q ▸ pre.Bτ)
          · exact noOwn j sl y h1 h2
      · trivial
    · exact ⟨τo, τn, kA _ _ τe, τi⟩
    · exact kA.but _
    · show s₁.heap.FunFrames G.H (env :: outer)
      refine hide fun b_ hb_ => ?_
      obtain ⟨oL, esL, epL, hoL, hdL, _⟩ := X.toInCall.ns
      refine hb_ ?_
      refine ⟨by rw [hsc, D.kind]; decide, ⟨_, oL, hfr, ?_, hoL, fun fs z => by rw [hdL] at z; cases z⟩, funFrames_all kA pre.frames⟩
      cases q : G.H.get? s.heap.objs.size with
      | none => rfl
      | some o => have := pre.base _ _ q; rw [size_none] at this; cases this
    · rw [es1]; exact ⟨rfl, rfl, rfl⟩
    · rcases hb with rfl | ⟨n, hm⟩
      · refine hide fun b_ hb_ => ?_
        obtain ⟨oL, _, _, hoL, _⟩ := X.toInCall.ns
        refine hb_ ?_
        exact ⟨_, hoL⟩
      · obtain ⟨o, e, _⟩ := X.cell n b hm
        exact ⟨o, e⟩
    · exact ⟨_, X.toInCall.ns⟩
  have S : Surr G c n (A.deeper env) := by
    refine ⟨cok, pre.gok, ?_, pre.hh, ?_⟩
    · obtain ⟨r1, r2⟩ := pre.room
      exact ⟨by show A.depth + 1 + n < _; omega, by show A.units + 3 + 20 * n < _; omega⟩
    · show A.frames.map (env :: ·) = _; rw [pre.fr]; rfl
  have nsF : Fb st ≠ .stuck := fun q => by rw [q] at er; exact ns er.symm
  refine wpAny_mono (hb c (A.deeper env) st vs s₁ hsc rfl rfl S sr nsF) (fun f s2 q => ?_) fun e s2 q => ?_
  · cases ef : Fb st with
    | raise => rw [ef] at q; cases q
    | stuck => exact absurd ef nsF
    | ok res st2 =>
      rw [ef] at q er
      cases res with
      | next =>
        refine hide fun b_ hb_ => ?_
        obtain ⟨rfl, vs2, r2, k2⟩ := q
        simp only at er
        subst er
        refine hb_ ?_
        show QR G τ B s _ .none s2
        exact ⟨r2.tape, .none, (fun h => by cases h), r2.keep, r2.rest⟩
      | ret y fr =>
        refine hide fun b_ hb_ => ?_
        obtain ⟨v, rfl, q1, q2, q3, q4, q5, q6⟩ := q
        simp only at er
        subst er
        refine hb_ ?_
        show QR G τ B s _ v s2
        exact ⟨q1, q2, q3, q4, q6⟩
  · refine hide fun b_ hb_ => ?_
    obtain ⟨q1, ea, rfl, ⟨hst, hbase, ff, a0, Lf, hf, hcase⟩, up, rst, _⟩ := q
    refine hb_ ?_
    rw [q1] at er
    have hf' : env.frame = some Lf := hf
    have hdf : (A.deeper env).frames = some (env :: outer) := by show A.frames.map (env :: ·) = _; rw [pre.fr]; rfl
    have fin : ∀ h', Heap.FlyingW G.H outer ea (.ref G.C) a0 h' → s2.heap.UpToSlots h' → ER G τ outer s r (.ref ea) { s2 with heap := h' } := fun h' fl us => ⟨er.symm, ea, a0, rfl, fl, up.slots us, rst⟩
    rcases hcase with ⟨oe, vf, he, hc, hd, h1, h0⟩ | ht | ht
    · refine wpAny_leaving_firstW hdf ff hf' he hst hbase hd h1 h0 fun h' hL => ?_
      refine hide fun b_ hb_ => ?_
      obtain ⟨k1, ⟨_, _, k2⟩, k3, k4⟩ := hL
      refine hb_ ?_
      rw [hc] at k3
      exact fin h' ⟨k1, hbase, k2, k3⟩ k4
    · refine wpAny_leaving_nextW hdf ff hf' ht hst hbase fun h' hL => ?_
      refine hide fun b_ hb_ => ?_
      obtain ⟨k1, ⟨_, _, k2⟩, k3, k4⟩ := hL
      refine hb_ ?_
      exact fin h' ⟨k1, hbase, k2, k3⟩ k4
    · unfold leaving
      refine wpAny_bind (wpAny_noteFrame_againW hf' ht ?_)
      refine wpAny_landsW (L := Lf) ⟨hst, hbase, ff, ht⟩ fun h' hfl us => ?_
      refine hide fun b_ hb_ => ?_
      obtain ⟨k1, k2, ⟨_, _, k3⟩, k4⟩ := hfl
      refine hb_ ?_
      exact fin h' ⟨k1, k2, k3, k4⟩ us
end Mine
namespace Mine
open PySem PySem.W PySem.Calls PyProof.Rows PySem.Builtin PySem.Builtin.ObjectAttr

theorem tc_weight (C : Addr) (rest : List Value) : (Code.builtin "type.__call__" ⟨.ref C :: rest, []⟩).weight = 1 := by kernel_rfl

section
variable {prog : Program} {w : World} {A : Around} {E : Value → Shared → Prop} {h : Heap} {g : Array GenState} {d : Drawn} {t : Nat} {os : OsState} {M : Model}
variable {nm q : Str} {C N P : Addr} {bs bmB : List Value} {hdct : Bool} {sn : List Str} {sub : List Value} {ab : Bool} {col : Option Bool} {dd : Option Addr} {k0 k1 k2 k3 k5 : Option Value} {B newId initId : String}
  {pc0 : Value} {pdd : Option Addr} {pcd : ClassData} {psl : Array (Option Value)} {mP mN : Str → Option Value}

theorem tlook {name : Str} {y : Option Value} {Q : Option Value → Shared → Prop} (hC : h.get? C = some (excClassObj nm q C N bs (.ref P :: bmB) hdct sn sub ab col dd k0 k1 k2 k3 k5 newId)) (hn : h.Ns N mN)
    (hP : h.get? P = some { cls := pc0, dict := pdd, data := .cls pcd, slots := psl }) (hNP : h.Ns pcd.ns mP) (hp : mP name = none) (hbm : mroOf (.type B) = pure bmB) (hB : typeLookup (.type B) name = pure y)
    (hq : Q (match mN name with | some v => some v | none => y) ⟨h, g, d, t, os⟩) : wpAny M A (typeLookup (.ref C) name) Q E ⟨h, g, d, t, os⟩ := by
  have hrest : lookupAlong bmB name = pure y := by rw [typeLookup_eq, hbm] at hB; exact hB
  rw [typeLookup_eq]
  refine wpAny_bind (wpAny_mroOf_exc hC ?_)
  rw [lookupAlong_cons]
  refine wpAny_bind (wpAny_classOwn_exc hC hn ?_)
  cases hv : mN name with
  | some v => rw [hv] at hq; exact wpAny_pure hq
  | none =>
    rw [hv] at hq
    show wpAny _ _ (lookupAlong (.ref P :: bmB) name) _ _ _
    rw [lookupAlong_cons]
    refine wpAny_bind (wpAny_classOwn_cls hP hNP ?_)
    rw [hp]
    show wpAny _ _ (lookupAlong bmB name) _ _ _
    rw [hrest]
    exact wpAny_pure hq

theorem type_call_init (F : ExcBaseFacts B newId initId bmB) {rest : List Value} {fI : Addr} {oI : Obj} {Q : Fin → Shared → Prop}
    (hC : h.get? C = some (excClassObj nm q C N bs (.ref P :: bmB) hdct sn sub ab col dd k0 k1 k2 k3 k5 newId)) (hn : h.Ns N mN) (hP : h.get? P = some { cls := pc0, dict := pdd, data := .cls pcd, slots := psl }) (hNP : h.Ns pcd.ns mP) (hp : mP "__init__" = none)
    (hi : mN "__init__" = some (.ref fI)) (hfI : h.get? fI = some oI) (hfc : oI.cls = .type "function")
    (hq : ∀ h' e, Heap.MadeExcOf h h' e (.ref C) rest →
      wpAny (model prog w) A (call (.ref fI) (.ref e :: rest)) (fun r s' => r = .none ∧ Q (.done (.ret (.ref e))) s') E ⟨h', g, d, t, os⟩) (hrest : rest.length ≤ sizeLine) :
    wpAny (model prog w) A (Builtin.«type.__call__» ⟨.ref C :: rest, []⟩) Q E ⟨h, g, d, t, os⟩ := by
  have T : OwnTail h bmB (.ref P :: bmB) := .own hP hNP hp .base
  repeat (first | with_reducible refine wpAny_loadPart_at hC ?_ | with_reducible refine wpAny_madeBy_exc hC ?_ | wp_step)
  refine codeAny_call_builtin_code (Code.quiet_builtin _ F.quiet) (wpAny_check_new_subT F T hC ?_)
  refine codeAny_exc_new_subT F T hC ?_ hrest
  show wpAny _ _ _ _ _ _
  have hC₁ := Heap.get?_push_of_some { cls := .ref C, data := .fields #[.ref h.objs.size, .none, .none, .none, .bool false, .none] }
    (Heap.get?_push_of_some { cls := .type "tuple", data := .seq rest.toArray } hC)
  have hfI₁ := Heap.get?_push_of_some { cls := .ref C, data := .fields #[.ref h.objs.size, .none, .none, .none, .bool false, .none] }
    (Heap.get?_push_of_some { cls := .type "tuple", data := .seq rest.toArray } hfI)
  have hP₁ := Heap.get?_push_of_some { cls := .ref C, data := .fields #[.ref h.objs.size, .none, .none, .none, .bool false, .none] }
    (Heap.get?_push_of_some { cls := .type "tuple", data := .seq rest.toArray } hP)
  have kk : ∀ b o, h.get? b = some o → ((h.push { cls := .type "tuple", data := .seq rest.toArray }).push { cls := .ref C, data := .fields #[.ref h.objs.size, .none, .none, .none, .bool false, .none] }).get? b = some o :=
    fun b o e => Heap.get?_push_of_some _ (Heap.get?_push_of_some _ e)
  have hn₁ := hn.keeps kk
  have hNP₁ := hNP.keeps kk
  have hget : ((h.push { cls := .type "tuple", data := .seq rest.toArray }).push
      { cls := .ref C, data := .fields #[.ref h.objs.size, .none, .none, .none, .bool false, .none] }).get? (h.objs.size + 1) = some
      { cls := .ref C, data := .fields #[.ref h.objs.size, .none, .none, .none, .bool false, .none] } := by heap_get
  have hcC : (Value.ref C :: .ref P :: bmB).contains (.ref C) = true := by simp
  unfold isInstance
  repeat (first | with_reducible refine wpAny_loadPart_at hget ?_ | (with_reducible refine wpAny_isSubtype_exc hC₁ ?_; rw [hcC]) | wp_step)
  show wpAny _ _ (typeLookup (.ref C) _) _ _ _
  refine tlook hC₁ hn₁ hP₁ hNP₁ hp F.mroIs F.init.lookup ?_
  rw [hi]
  refine wpAny_holding (wpAny_bind ?_)
  unfold bindSpecial
  refine wpAny_bind (wpAny_typeOf (T := "function") ⟨_, hfI₁, hfc⟩ ?_)
  rw [if_pos (by decide)]
  refine wpAny_pure (wpAny_bind (wpAny_mono (hq _ (h.objs.size + 1) ⟨kk, Heap.get?_none_of_le (Nat.le_succ _), h.objs.size, hget, Heap.get?_none_of_le (Nat.le_refl _), ?_⟩) (fun r s' hr => ?_) fun _ _ x => x))
  · exact Heap.get?_push_of_some _ (Heap.get?_push_at rfl rfl)
  · obtain ⟨rfl, hQ⟩ := hr
    wp_walk
    exact hQ

theorem call_init (F : ExcBaseFacts B newId initId bmB) {rest : List Value} {fI : Addr} {oI : Obj} {Q : Value → Shared → Prop}
    (hC : h.get? C = some (excClassObj nm q C N bs (.ref P :: bmB) hdct sn sub ab col dd k0 k1 k2 k3 k5 newId)) (hn : h.Ns N mN) (hP : h.get? P = some { cls := pc0, dict := pdd, data := .cls pcd, slots := psl }) (hNP : h.Ns pcd.ns mP) (hp : mP "__init__" = none)
    (hi : mN "__init__" = some (.ref fI)) (hfI : h.get? fI = some oI) (hfc : oI.cls = .type "function")
    (hq : ∀ h' e, Heap.MadeExcOf h h' e (.ref C) rest →
      wpAny (model prog w) (A.under (.builtin "type.__call__" ⟨.ref C :: rest, []⟩)) (call (.ref fI) (.ref e :: rest)) (fun r s' => r = .none ∧ Q (.ref e) s') E ⟨h', g, d, t, os⟩) (hrest : rest.length ≤ sizeLine) :
    wpAny (model prog w) A (call (.ref C) rest) Q E ⟨h, g, d, t, os⟩ := by
  have f1 := tc_lookup
  have f2 := tc_bind (.ref C)
  have hT : (⟨h, g, d, t, os⟩ : Shared).TypeIs (.ref C) "type" := ⟨_, hC, rfl⟩
  refine wpAny_call (codeAny_of_tree ?_)
  show wpAny _ _ (callAny (.ref C) _) _ _ _
  repeat (any_goals (first | assumption | with_reducible refine wpAny_loadPart_at hC ?_ | wp_step))
  refine ⟨rfl, ?_⟩
  refine codeAny_call_builtin_at (Code.quiet_builtin _ (by decide +kernel)) entry_typeCall (wpAny_check_type_call_sub hC (type_call_init F hC hn hP hNP hp hi hfI hfc (fun h' e hm => ?_) hrest))
  exact hq h' e hm

theorem check_sa2 {o : Obj} {x : Addr} {nameV v : Value} {sa owner : String} {Q : Unit → Shared → Prop} (SF : StoreFacts B bmB sa owner)
    (hC : h.get? C = some (excClassObj nm q C N bs (.ref P :: bmB) true sn sub ab col dd k0 k1 k2 k3 k5 newId)) (hx : h.get? x = some o) (hc : o.cls = .ref C) (hq : Q () ⟨h, g, d, t, os⟩) :
    wpAny M A (checkBuiltinCall sa ⟨[.ref x, nameV, v], []⟩) Q E ⟨h, g, d, t, os⟩ := by
  have hcB : (Value.ref C :: .ref P :: bmB).contains (.type owner) = true := by rw [List.contains_cons, List.contains_cons, SF.hasOwner, Bool.or_true, Bool.or_true]
  have ha := SF.args (.ref x) nameV v
  simp only [checkBuiltinCall, SF.kind, SF.split]
  refine wpAny_bind ?_
  · unfold isInstance
    repeat (first | (with_reducible refine wpAny_loadPart_at hx ?_; rw [hc]) | (with_reducible refine wpAny_isSubtype_exc hC ?_; rw [hcB]) | wp_step)
    cases hsig : Manifest.signature? sa with
    | none => exact wpAny_pure hq
    | some sig =>
      simp only [argsOk, hsig] at ha
      have h2 : Bind.checkArgs sa sig ⟨[.ref x, nameV, v], []⟩ = pure () := ha
      show wpAny M A (Bind.checkArgs sa sig ⟨[.ref x, nameV, v], []⟩) Q E _
      rw [h2]; exact wpAny_pure hq

structure Given (h h' : Heap) (x : Addr) (o : Obj) : Prop where
  keep : ∀ b ob, b ≠ x → h.get? b = some ob → h'.get? b = some ob
  self : ∃ dx, h'.get? x = some { o with dict := some dx }

theorem store_entry2 {tk : Tok} {o : Obj} {x : Addr} {name : Str} {v : Value} {sa owner : String} {Q : Fin → Shared → Prop} (SF : StoreFacts B bmB sa owner)
    (hC : h.get? C = some (excClassObj nm q C N bs (.ref P :: bmB) true sn sub ab col dd k0 k1 k2 k3 k5 newId)) (hn : h.Ns N mN) (hP : h.get? P = some { cls := pc0, dict := pdd, data := .cls pcd, slots := psl }) (hNP : h.Ns pcd.ns mP) (hp : mP name = none) (hna : mN name = none)
    (hB : typeLookup (.type B) name = pure none) (hx : h.get? x = some o) (hc : o.cls = .ref C) (hnc : ∀ c, o.data ≠ .cls c) (hdn : o.dict = none)
    (hq : ∀ h' tk', Given h h' x o → Q (.done (.ret .none)) ⟨h', g, d, tk', os⟩) :
    wpAny (model prog w) A (Builtin.«object.__setattr__» ⟨[.ref x, .str name tk, v], []⟩) Q E ⟨h, g, d, t, os⟩ := by
  have hpass := SF.passes (.ref x)
  unfold Builtin.«object.__setattr__»
  repeat (first | rw [refuse_eq] | (rw [refuseLoop_ref, refuseLoop_ref, hpass]) | (with_reducible refine wpAny_loadPart_at hx ?_; rw [hc]) | with_reducible refine wpAny_mroOf_exc hC ?_ | (with_reducible refine tlook hC hn hP hNP hp SF.mro hB ?_; rw [hna]) | wp_step)
  rw [hdn, if_neg (by simp [typeHasDict])]
  split
  · rename_i hcd
    cases hcd
  split
  · rename_i c hcd
    exact absurd hcd (hnc c)
  · have hx₁ : (h.push { cls := .type "dict", data := .dict #[] }).get? x = some o := Heap.get?_push_of_some _ hx
    have hxs : x ≠ h.objs.size := Nat.ne_of_lt (Heap.lt_size hx)
    refine wpAny_bind (wpAny_alloc' ?_)
    refine wpAny_bind (wpAny_update' hx₁ ?_)
    refine wpAny_pure ?_
    have hgd : ((h.push { cls := .type "dict", data := .dict #[] }).update x fun o => { cls := o.cls, dict := some h.objs.size, data := o.data, slots := o.slots }).get? h.objs.size
        = some { cls := .type "dict", data := .dict #[] } :=
      (Heap.get?_update_ne _ _ _ _ hxs.symm).trans (Heap.get?_push_at rfl rfl)
    have hnd : ((h.push { cls := .type "dict", data := .dict #[] }).update x fun o => { cls := o.cls, dict := some h.objs.size, data := o.data, slots := o.slots }).Ns h.objs.size (fun _ => none) :=
      ⟨_, #[], _, hgd, rfl, fun e he => absurd he (by simp), fun _ => rfl⟩
    show wpAny _ _ (storeInDict h.objs.size (.str name tk) name v) _ _ _
    unfold storeInDict newKeyGuard
    refine wpAny_bind (wpAny_pure (wpAny_bind (wpAny_nsSet1 (Heap.Ns1.of_empty hnd) fun h' hn' hs => ?_)))
    obtain ⟨oD, esD, epD, hoD, hdD, hcD⟩ := hn'.count (Within.cons name v Within.nil)
    refine wpAny_bind (wpAny_lookBehind hoD (by rw [hdD]; exact pastItsLine_dict (Nat.le_trans hcD (by rw [List.length_cons, List.length_nil, sizeLine_eq]; omega))) ?_)
    wp_walk
    have hx' : h'.get? x = some { cls := o.cls, dict := some h.objs.size, data := o.data, slots := o.slots } := by
      refine (hs.2 x hxs).trans (Heap.get?_update_self _ hx₁ ?_)
      have hfr := (Heap.get?_some_iff.mp hx).2
      obtain ⟨oc, od, odt, osl⟩ := o
      cases odt <;> first | rfl | exact hfr
    refine hq h' _ ⟨fun b ob hbx hb => ?_, ⟨_, hx'⟩⟩
    exact (hs.2 b (Nat.ne_of_lt (Heap.lt_size hb))).trans ((Heap.get?_update_ne _ _ _ _ hbx).trans (Heap.get?_push_of_some _ hb))

theorem store_attr2 {o : Obj} {x : Addr} {name : Str} {v : Value} {sa owner : String} {Q : Unit → Shared → Prop} (SF : StoreFacts B bmB sa owner)
    (hC : h.get? C = some (excClassObj nm q C N bs (.ref P :: bmB) true sn sub ab col dd k0 k1 k2 k3 k5 newId)) (hn : h.Ns N mN) (hP : h.get? P = some { cls := pc0, dict := pdd, data := .cls pcd, slots := psl }) (hNP : h.Ns pcd.ns mP)
    (hps : mP "__setattr__" = none) (hns : mN "__setattr__" = none) (hp : mP name = none) (hna : mN name = none)
    (hB : typeLookup (.type B) name = pure none) (hx : h.get? x = some o) (hc : o.cls = .ref C) (hnc : ∀ c, o.data ≠ .cls c) (hdn : o.dict = none)
    (hq : ∀ h' tk', Given h h' x o → Q () ⟨h', g, d, tk', os⟩) :
    wpAny (model prog w) A (setAttr (.ref x) name v) Q E ⟨h, g, d, t, os⟩ := by
  have f3 := SF.slot.bind (.ref x)
  unfold setAttr callSpecial? specialOf
  repeat (any_goals (first | assumption | (with_reducible refine wpAny_loadPart_at hx ?_; rw [hc]) | (with_reducible refine tlook hC hn hP hNP hps SF.mro SF.slot.lookup ?_; rw [hns]) | wp_step))
  refine codeAny_call_builtin SF.slot.plain SF.entry (check_sa2 SF hC hx hc (store_entry2 SF hC hn hP hNP hp hna hB hx hc hnc hdn fun h' tk' G => ?_))
  repeat (any_goals (first | assumption | wp_step))
  exact hq h' tk' G
end

section
variable {M : Model} {A : Around} {E : Value → Shared → Prop} {env : Env}
variable {nm q : Str} {C N : Addr} {bs bm : List Value} {hdct : Bool} {sn : List Str} {sub : List Value} {ab : Bool} {col : Option Bool} {dd : Option Addr} {k0 k1 k2 k3 k5 : Option Value} {newId : String}
theorem raiseStmt_made {s : Shared} {x : Sem Value} {Q : Flow → Shared → Prop} (hbase : bm.contains (.type "BaseException") = true) (hh : A.handled = none)
    (h : wpAny M A x (fun v s₁ => ∃ e t dx, v = .ref e ∧ s₁.heap.get? C = some (excClassObj nm q C N bs bm hdct sn sub ab col dd k0 k1 k2 k3 k5 newId) ∧
      s₁.heap.get? e = some { cls := .ref C, dict := dx, data := .fields #[.ref t, .none, .none, .none, .bool false, .none] } ∧ E (.ref e) s₁) E s) :
    wpAny M A (raiseStmt env (some x) none) Q E s := by
  have hcB : (Value.ref C :: bm).contains (.type "BaseException") = true := by rw [List.contains_cons, hbase, Bool.or_true]
  unfold raiseStmt
  refine wpAny_bind (wpAny_mono h (fun v s₁ h₁ => ?_) fun _ _ x => x)
  refine hide fun b_ hb_ => ?_
  obtain ⟨e, t, dx, rfl, hC, he, hE⟩ := h₁
  obtain ⟨hp, g, d, tk, os⟩ := s₁
  refine hb_ ?_
  repeat (first | with_reducible refine wpAny_loadPart_at he ?_ | with_reducible refine wpAny_loadPart_at hC ?_ | (with_reducible refine wpAny_isSubtype_exc hC ?_; rw [hcB]) | wp_step)
  exact wpAny_raiseNew_none hh hE
end

noncomputable abbrev excBm : List Value := [.type "Exception", .type "BaseException", .type "object"]
theorem what_none : typeLookup (.type "Exception") "what" = pure none := by rw [typeLookup_type, builtinLookup_eq_fast]; kernel_rfl

noncomputable def initBody (p1 p2 p3 p4 : Pos) : List Stmt := [.Assign [.Attribute (.Name "self" p1) "what" p2] (.Name "what" p3) p4]

structure ExcAt (G : GC) (nm q : Str) (N P : Addr) (bs : List Value) (sn : List Str) (sub : List Value) (ab : Bool) (col : Option Bool) (dd : Option Addr) (k0 k1 k2 k3 k5 : Option Value) (pc0 : Value) (pdd : Option Addr) (pcd : ClassData) (psl : Array (Option Value))
    (mP mN : Str → Option Value) (fI : Addr) (fdI : FuncData) (p1 p2 p3 p4 : Pos) : Prop where
  hC : G.H.get? G.C = some (excClassObj nm q G.C N bs (.ref P :: excBm) true sn sub ab col dd k0 k1 k2 k3 k5 "Exception.__new__")
  hN : G.H.Ns N mN
  hP : G.H.get? P = some { cls := pc0, dict := pdd, data := .cls pcd, slots := psl }
  hNP : G.H.Ns pcd.ns mP
  pI : mP "__init__" = none
  pS : mP "__setattr__" = none
  pW : mP "what" = none
  nI : mN "__init__" = some (.ref fI)
  nS : mN "__setattr__" = none
  nW : mN "what" = none
  fn : ∃ o, G.H.get? fI = some o ∧ o.cls = .type "function"
  df : DefAt G fI fdI (initBody p1 p2 p3 p4) ["self", "what"] 2 []
  kS : fdI.scope.names.lookup ("self" : Str) = some .local
  kW : fdI.scope.names.lookup ("what" : Str) = some .local
  sw : ∀ env : Env, env.scope.kind = .function → swapsWith (.Name "what" p3) (some (.Attribute (.Name "self" p1) "what" p2)) p4.line env = pure false

section
variable {G : GC} {nm q : Str} {N P : Addr} {bs : List Value} {sn : List Str} {sub : List Value} {ab : Bool} {col : Option Bool} {dd : Option Addr} {k0 k1 k2 k3 k5 : Option Value} {pc0 : Value} {pdd : Option Addr} {pcd : ClassData} {psl : Array (Option Value)}
    {mP mN : Str → Option Value} {fI : Addr} {fdI : FuncData} {p1 p2 p3 p4 : Pos} {A : Around} {E : Value → Shared → Prop}

theorem init_sound (X : ExcAt G nm q N P bs sn sub ab col dd k0 k1 k2 k3 k5 pc0 pdd pcd psl mP mN fI fdI p1 p2 p3 p4) (hlim : G.H.NoLimit) (hroom : A.depth < recursionLimit) {s : Shared} (kG : KeepAll G.H s.heap) {e t : Addr} {v : Value}
    (he : s.heap.get? e = some { cls := .ref G.C, data := .fields #[.ref t, .none, .none, .none, .bool false, .none] }) (hn : G.H.get? e = none) {Q : Value → Shared → Prop}
    (hq : ∀ h' tk dx, (∀ b o, b ≠ e → s.heap.get? b = some o → h'.get? b = some o) → h'.get? e = some { cls := .ref G.C, dict := dx, data := .fields #[.ref t, .none, .none, .none, .bool false, .none] } → Q .none { s with heap := h', toks := tk }) :
    wpAny G.M A (call (.ref fI) [.ref e, v]) Q E s := by
  obtain ⟨o, ho, hdata⟩ := X.df.obj
  refine wpAny_call (call_cellsB hroom (kG _ _ ho) hdata (hlim.keeps kG) (X.df.code.keeps kG) X.df.body (X.df.bind s [.ref e, v] kG rfl) X.df.clo (fun x hx => ?_) (fun s₁ I => ?_) X.df.co X.df.gen X.df.kind)
  · simp only [List.append_nil, List.zip_cons_cons, List.zip_nil_left, List.mem_cons, List.not_mem_nil, or_false] at hx
    rcases hx with rfl | rfl
    · exact .inl X.kS
    · exact .inl X.kW
  obtain ⟨env, eenv⟩ : ∃ env, env = callEnvC fdI s.heap.objs.size fI := ⟨_, rfl⟩
  rw [← eenv] at I ⊢
  have hko : ∀ x, env.kindOf x = fdI.scope.names.lookup x := fun x => by rw [eenv]; rfl
  have hkd : env.scope.kind = .function := by rw [eenv]; exact X.df.kind
  have hL : env.locals = s.heap.objs.size := by rw [eenv]; rfl
  obtain ⟨h1, tk1, es1⟩ := I.toInCall.same
  have kA := I.toInCall.keep
  have hns := I.toInCall.ns
  have nd : ((["self", "what"] : List Str).zip ([Value.ref e, v] ++ [])).map (·.1) = (["self", "what"] : List Str) := rfl
  refine wpAny_execs_cons (plainObj_wpAny_Assign_Attribute ?_ (X.sw env hkd))
  refine wpAny_Name (wpAny_loadName_local hkd (by rw [hko]; exact X.kW) hns (bindL_in (v := v) (by rw [nd]; decide) (by simp) (by rw [hko]; exact X.kW)) ?_) (by decide)
  refine wpAny_Name (wpAny_loadName_local hkd (by rw [hko]; exact X.kS) hns (bindL_in (v := .ref e) (by rw [nd]; decide) (by simp) (by rw [hko]; exact X.kS)) ?_) (by decide)
  subst es1
  have kH : ∀ b o, G.H.get? b = some o → h1.get? b = some o := fun b o q => kA b o (kG b o q)
  refine store_attr2 (B := "Exception") (owner := "object") F.store_Exception (kH _ _ X.hC) (X.hN.keeps kH) (kH _ _ X.hP) (X.hNP.keeps kH) X.pS X.nS X.pW X.nW what_none (kA _ _ he) rfl (fun c z => by cases z) rfl fun h' tk' Gv => ?_
  refine wpAny_execs_nil ?_
  obtain ⟨gk, dx, gs⟩ := Gv
  exact hq h' tk' (some dx) (fun b o nb q => gk b o nb (kA b o q)) gs

noncomputable def ExcOk (G : GC) : Prop := ∃ nm q N P bs sn sub ab col dd k0 k1 k2 k3 k5 pc0 pdd pcd psl mP mN fI fdI p1 p2 p3 p4, ExcAt G nm q N P bs sn sub ab col dd k0 k1 k2 k3 k5 pc0 pdd pcd psl mP mN fI fdI p1 p2 p3 p4

noncomputable def sRaise (Fe : EF) : SF := fun st => (Fe st).bind fun av st1 => .raise

theorem SS_raise {sc : Scope} {vars : List Str} {n : Nat} (X0 : ExcOk G) {cn : Str} {e : Expr} {np cpos pos : Pos} {Fe : EF} (h : SE G sc vars (n + 1) e Fe)
    (hse : ∀ env rest, starEach (e :: rest) env = (false, eval e env) :: starEach rest env) (hg : G.mg cn = some (.ref G.C)) (hk : sc.names.lookup cn = some .globalImplicit) (hd : (cn == ("__debug__" : Str)) = false) :
    SS G sc vars (n + 1) (.Raise (some (.Call (.Name cn np) [e] [] cpos)) none pos) (sRaise Fe) := by
  refine hide fun b_ hb_ => ?_
  obtain ⟨nm, q, N, P, bs, sn, sub, ab, col, dd, k0, k1, k2, k3, k5, pc0, pdd, pcd, psl, mP, mN, fI, fdI, p1, p2, p3, p4, X⟩ := X0
  refine hb_ ?_
  intro c A st vs s hsc hv hown S r ns
  obtain ⟨o, eo⟩ : ∃ o, sRaise Fe st = o := ⟨_, rfl⟩
  rw [eo] at ns ⊢
  rw [arm_exec_Raise]
  have es : starEach [e] c.env = [(false, eval e c.env)] := by rw [hse]; rfl
  refine wpAny_bind (wpAny_standAt (raiseStmt_made (C := G.C) (nm := nm) (q := q) (N := N) (bs := bs) (bm := .ref P :: excBm) (hdct := true) (sn := sn) (sub := sub) (ab := ab) (col := col) (dd := dd) (k0 := k0) (k1 := k1) (k2 := k2) (k3 := k3) (k5 := k5) (newId := "Exception.__new__") (by simp [excBm]) S.hh
    (wpAny_bind (wpAny_mono (wpAny_Call_ofName (load_global hsc S r hg hk hd ?_)) (fun v s₃ h₃ => wpAny_bind (wpAny_standAt (wpAny_pure h₃))) fun _ _ x => x))))
  unfold callWith
  rw [es]
  refine wpAny_bind (wpAny_holding (evalArgs_plain (spliced_cons ?_)))
  refine h.use hsc hv S r eo ns fun av st1 v1 s1 ho q1 q2 q3 q4 q5 => spliced_nil (wpAny_bind (wpAny_standAt ?_))
  have kG := base_stays S.ok q1
  refine hide fun b_ hb_ => ?_
  obtain ⟨hp, g, d, tk, os⟩ := s1
  refine hb_ ?_
  refine wpAny_bind (wpAny_keeperOf_exc (kG _ _ X.hC) ?_)
  obtain ⟨oI, hoI, hcI⟩ := X.fn
  refine wpAny_bind (call_init F.excBase_Exception (kG _ _ X.hC) (X.hN.keeps kG) (kG _ _ X.hP) (X.hNP.keeps kG) X.pI X.nI (kG _ _ hoI) hcI (fun h' ea hm => ?_) (by rw [sizeLine_eq]; simp))
  refine hide fun b_ hb_ => ?_
  obtain ⟨t, ht, _, _⟩ := hm.there
  refine hb_ ?_
  have eaN : G.H.get? ea = none := by
    cases z : G.H.get? ea with
    | none => rfl
    | some o => have := kG _ _ z; rw [hm.new] at this; cases this
  have zd : (A.under (.builtin "type.__call__" ⟨.ref G.C :: [v1], []⟩)).depth < recursionLimit := by
    have z : (A.under (.builtin "type.__call__" ⟨.ref G.C :: [v1], []⟩)).depth = A.depth + 1 := by show A.depth + _ = _; rw [tc_weight]
    have := S.room.1
    omega
  refine init_sound X S.gok.nolimit zd (fun b o q => hm.keeps _ _ (kG b o q)) ht eaN fun h2 tk2 dx k2 e2 => ?_
  refine ⟨rfl, wpAny_bind (wpAny_holding (wpAny_point (wpAny_pure ?_)))⟩
  have kAll : ∀ b o, hp.get? b = some o → h2.get? b = some o := fun b o q => k2 b o (fun z => by subst z; rw [hm.new] at q; cases q) (hm.keeps b o q)
  refine ⟨ea, t, dx, rfl, kAll _ _ (kG _ _ X.hC), e2, ho.symm, ea, rfl, ⟨fun b o q => kAll b o (kG b o q), eaN, funFrames_all kAll q1.frames, ?_⟩, ?_, q1.rest, ?_⟩
  · obtain ⟨Lf, hLf⟩ := S.ok.fr
    exact ⟨_, Lf, hLf, .inl ⟨_, _, e2, rfl, rfl, rfl, rfl⟩⟩
  · intro b o e nb nf
    exact ⟨o.slots, kAll b o (q1.keep b o nb e)⟩
  · obtain ⟨m, hm⟩ := q1.nsL
    exact ⟨m, hm.keeps kAll⟩
end
end Mine
namespace Mine
open PySem PySem.W PySem.Calls PyProof.Rows

section
variable {M : Model} {A : Around} {E : Value → Shared → Prop} {s : Shared} {env : Env}

noncomputable def cPost (M : Model) (A : Around) (E : Value → Shared → Prop) (use : Option (Value → Sem Unit)) (Q : Value → Shared → Prop) (acc : Value) (cenv : Env) (r : Result) (s' : Shared) : Prop :=
  match r, use with
  | .ok _, none => ∃ m, s'.heap.Ns cenv.locals m ∧ ∀ h', Heap.SameBut cenv.locals s'.heap h' → Q acc { s' with heap := h' }
  | .ok _, some u => wpAny M A (u acc) (fun _ s'' => ∃ m, s''.heap.Ns cenv.locals m ∧ ∀ h', Heap.SameBut cenv.locals s''.heap h' → Q .none { s'' with heap := h' }) E s'
  | .error x, _ => ∃ m, s'.heap.Ns cenv.locals m ∧ ∀ h', Heap.SameBut cenv.locals s'.heap h' → wpAny M A (PySem.passOn "comprehension.variables-let-go" x cenv : Sem Value) (fun _ _ => False) E { s' with heap := h' }

theorem comp_free {e : Expr} {scope : Scope} {pos : Pos} {newAcc first : Sem Value} {g : Comprehension} {gs : List Comprehension} {cl : List (Str × Addr)} {use : Option (Value → Sem Unit)}
    {Q : Value → Shared → Prop}
    (hcl : clausesOf e = g :: gs) (hs : ∀ x, foldedSetIterable g.iter env x = pure x)
    (hkind : scope.kind = .function) (hnames : ∀ x ∈ scope.names, x.2 = .local → scope.names.lookup x.1 = some .local)
    (h : wpAny M A first (fun x s₁ => wpAny M A (pyIter x) (fun it s₂ => wpAny M A newAcc (fun acc s₃ => closureFor scope env = pure cl ∧ 
      wpAny M A (newFunctionEnv scope env.globals cl [] env.qual none .none (some env)) (fun cenv s₄ =>
        codeAny M A (.compStart e 0 it acc { cenv with scope := relabel scope env }) (cPost M A E use Q acc { cenv with scope := relabel scope env }) s₄) E s₃) E s₂) E s₁) E s) :
    wpAny M A (comprehension e scope env pos newAcc false first use) Q E s := by
  unfold comprehension
  rw [hcl]
  refine wpAny_bind (wpAny_mono h (fun x s₁ h₁ => wpAny_bind (wpAny_standAt (wpAny_bind (wpAny_of_eq (hs x) (wpAny_bind (wpAny_holding (wpAny_mono h₁ (fun it s₂ h₂ =>
    wpAny_standIf (wpAny_bind (wpAny_mono h₂ (fun acc s₃ h₃ => ?_) fun _ _ h' => h')))
      fun _ _ h' => h'))))))) fun _ _ h' => h')
  obtain ⟨hclos, h₃⟩ := h₃
  refine wpAny_bind (wpAny_of_eq hclos (wpAny_bind (wpAny_mono h₃ (fun cenv s₄ h₄ => ?_) fun _ _ h' => h')))
  dsimp only
  have hv : ∀ x ∈ (scope.names.filter fun x => (x.2 == .local || x.2 == .cell) && x.1 != (".0" : Str)).reverse, x.2 = .local →
      Env.kindOf { cenv with scope := relabel scope env } x.1 = some .local := fun x hx hl => lookup_relabel_local (hnames x (List.mem_filter.mp (List.mem_reverse.mp hx)).1 hl)
  have hv' : ∀ x ∈ (scope.names.filter fun x => (x.2 == .local || x.2 == .cell) && x.1 != (".0" : Str)).reverse.drop 1 ++ (scope.names.filter fun x => (x.2 == .local || x.2 == .cell) && x.1 != (".0" : Str)).reverse.take 1,
      x.2 = .local → Env.kindOf { cenv with scope := relabel scope env } x.1 = some .local := fun x hx hl => by
    rcases List.mem_append.mp hx with h1 | h1
    · exact hv x (List.mem_of_mem_drop h1) hl
    · exact hv x (List.mem_of_mem_take h1) hl
  refine wpAny_holding (wpAny_bind (wpAny_attempt (wpAny_holding (wpAny_run (codeAny_mono h₄ fun r s' hr => ?_)))))
  cases r with
  | ok f =>
    cases use with
    | none =>
      obtain ⟨m, hn, hr⟩ := hr
      exact wpAny_bind (wpAny_holding (wpAny_comp_letGo (cenv := { cenv with scope := relabel scope env }) hkind _ s' m hv hn fun h' m' _ hs' => wpAny_pure (hr h' hs')))
    | some u =>
      refine wpAny_bind (wpAny_rule (wpAny_bind (wpAny_holding (wpAny_mono hr (fun _ s'' hr' => ?_) fun _ _ h' => h'))))
      obtain ⟨m, hn, hr'⟩ := hr'
      exact wpAny_bind (wpAny_comp_letGo (cenv := { cenv with scope := relabel scope env }) hkind _ s'' m hv' hn fun h' m' _ hs' => wpAny_pure (hr' h' hs'))
  | error x =>
    have hr' : ∃ m, s'.heap.Ns cenv.locals m ∧ ∀ h', Heap.SameBut cenv.locals s'.heap h' → wpAny M A (PySem.passOn "comprehension.variables-let-go" x { cenv with scope := relabel scope env } : Sem Value) (fun _ _ => False) E { s' with heap := h' } := by cases use <;> exact hr
    obtain ⟨m, hn, hr⟩ := hr'
    exact wpAny_bind (wpAny_holding (wpAny_comp_letGo (cenv := { cenv with scope := relabel scope env }) hkind _ s' m hv hn fun h' m' _ hs' => wpAny_mono (hr h' hs') (fun _ _ f => f.elim) fun _ _ y => y))
end

section
variable {prog : Program} {w : World} {A : Around} {E : Value → Shared → Prop} {R : Result → Shared → Prop} {s : Shared}
theorem compLoop_go {elt target iter : Expr} {ifs : List Expr} {scope : Scope} {pos : Pos} {it acc : Value} {env : Env} (I : Nat → Shared → Prop)
    (turn : ∀ n s, I n s → wpAny (model prog w) A (pyNext it) (fun r s₁ => match r with
      | none => R (.ok .next) s₁
      | some v => wpAny (model prog w) A (letOwnedTupleGo target it v) (fun _ s₁' => wpAny (model prog w) A (assign target env v) (fun _ s₂ =>
          wpAny (model prog w) A (forIn ifs true fun c r => if r = true then do let ok ← isTrue c env (eval c env); pure (ForInStep.yield ok) else pure (ForInStep.yield r)) (fun ok s₃ =>
            if ok = true then wpAny (model prog w) A (eval elt env) (fun x s₄ =>
              wpAny (model prog w) A (call (.builtin "list.append") [acc, x]) (fun _ s₅ => ∃ m, m < n ∧ I m s₅) (notedBy (model prog w) A env fun e s' => R (.error e) s') s₄) (notedBy (model prog w) A env fun e s' => R (.error e) s') s₃
            else ∃ m, m < n ∧ I m s₃) (notedBy (model prog w) A env fun e s' => R (.error e) s') s₂) (notedBy (model prog w) A env fun e s' => R (.error e) s') s₁') (notedBy (model prog w) A env fun e s' => R (.error e) s') s₁) (notedBy (model prog w) A env fun e s' => R (.error e) s') s)
    (n : Nat) (h : I n s) :
    codeAny (model prog w) A (.compLoop (.ListComp elt [⟨target, iter, ifs, 0⟩] scope pos) 0 it acc env) R s := by
  refine codeAny_loop rfl I (fun n s hI => ?_) n h
  show wpAny _ A ((compTurn (.ListComp elt [⟨target, iter, ifs, 0⟩] scope pos) 0 it acc env).onRaise (fun x => do noteFrame x env; theTreesLotGoes x)) _ _ s
  refine wpAny_noted ?_
  rw [compTurn_list]
  refine wpAny_bind (wpAny_standAt (wpAny_bind (wpAny_mono (turn n s hI) (fun r s₁ h₁ => ?_) fun _ _ h' => h')))
  cases r with
  | none => exact wpAny_pure h₁
  | some v =>
    refine wpAny_bind (wpAny_mono h₁ (fun _ s₁' h₁' => ?_) fun _ _ h' => h')
    refine wpAny_bind (wpAny_mono h₁' (fun _ s₂ h₂ => wpAny_bind (wpAny_mono h₂ (fun ok s₃ h₃ => ?_) fun _ _ h' => h')) fun _ _ h' => h')
    cases ok with
    | false => exact wpAny_pure ⟨rfl, h₃⟩
    | true =>
      exact wpAny_bind (wpAny_bind (wpAny_mono h₃ (fun x s₄ h₄ => wpAny_bind (wpAny_mono h₄ (fun _ s₅ h₅ => wpAny_pure (wpAny_pure ⟨rfl, h₅⟩)) fun _ _ h' => h')) fun _ _ h' => h'))
end

noncomputable def relabelS (cs sc : Scope) : Scope := { cs with names := cs.names.map fun (n, k) => if (k == .free && sc.kind == .function && sc.names.lookup n == some .cell) then (n, .cell) else (n, k) }
theorem relabel_eq (cs : Scope) (env : Env) : relabel cs env = relabelS cs env.scope := rfl

noncomputable def closS (cells : List (Str × Addr)) : List (Str × NameKind) → List (Str × Addr) → List (Str × Addr)
  | [], acc => acc
  | (n, k) :: r, acc => if k == .free then closS cells r ((n, (cells.lookup n).getD 0) :: acc) else closS cells r acc
theorem closS_mem {cells : List (Str × Addr)} : ∀ {names : List (Str × NameKind)} {acc : List (Str × Addr)} {n : Str} {a : Addr}, (n, a) ∈ closS cells names acc → (n, a) ∈ acc ∨ ((n, .free) ∈ names ∧ a = (cells.lookup n).getD 0) := by
  intro x_
  induction x_ with
  | nil =>
    intro acc n a h
    exact .inl h
  | cons h0_ r ih =>
    obtain ⟨n', k⟩ := h0_
    intro acc n a h
    unfold closS at h
    split at h
    · rename_i hk
      have hk' : k = .free := by simpa using hk
      rcases ih h with h | ⟨h1, h2⟩
      · rcases List.mem_cons.mp h with e | h
        · cases e; exact .inr ⟨by rw [hk']; exact List.mem_cons_self, rfl⟩
        · exact .inl h
      · exact .inr ⟨List.mem_cons_of_mem _ h1, h2⟩
    · rcases ih h with h | ⟨h1, h2⟩
      · exact .inl h
      · exact .inr ⟨List.mem_cons_of_mem _ h1, h2⟩
theorem closS_acc {cells : List (Str × Addr)} : ∀ {names : List (Str × NameKind)} {acc : List (Str × Addr)} {x : Str × Addr}, x ∈ acc → x ∈ closS cells names acc := by
  intro x_
  induction x_ with
  | nil =>
    intro _ _ h
    exact h
  | cons h0_ r ih =>
    obtain ⟨n', k⟩ := h0_
    intro acc x h
    unfold closS
    split
    · exact ih (List.mem_cons_of_mem _ h)
    · exact ih h
theorem closS_has {cells : List (Str × Addr)} : ∀ {names : List (Str × NameKind)} {acc : List (Str × Addr)} {n : Str}, (n, .free) ∈ names → (n, (cells.lookup n).getD 0) ∈ closS cells names acc := by
  intro x_
  induction x_ with
  | nil => intro _ _ h; exact nomatch h
  | cons h0_ r ih =>
    obtain ⟨n', k⟩ := h0_
    intro acc n h
    unfold closS
    rcases List.mem_cons.mp h with e | h
    · cases e
      rw [if_pos (show (NameKind.free == NameKind.free) = true from rfl)]
      exact closS_acc List.mem_cons_self
    · split
      · exact ih h
      · exact ih h
theorem closureFor_eq {scope : Scope} {env : Env} (h : ∀ n, (n, NameKind.free) ∈ scope.names → (env.cells.lookup n).isSome = true) : closureFor scope env = pure (closS env.cells scope.names []) := by
  unfold closureFor
  have key : ∀ (names : List (Str × NameKind)) (acc : List (Str × Addr)), (∀ n, (n, NameKind.free) ∈ names → (env.cells.lookup n).isSome = true) →
      (forIn names acc fun (x : Str × NameKind) (cs : List (Str × Addr)) => (if x.2 == .free then do let a ← cellOf env x.1; pure (ForInStep.yield ((x.1, a) :: cs)) else pure (ForInStep.yield cs) : Sem (ForInStep (List (Str × Addr))))) = pure (closS env.cells names acc) := by
    intro names
    induction names with
    | nil => intro acc _; rfl
    | cons x r ih =>
      intro acc hh
      obtain ⟨n, k⟩ := x
      rw [List.forIn_cons]
      unfold closS
      have hr : ∀ n, (n, NameKind.free) ∈ r → (env.cells.lookup n).isSome = true := fun n hn => hh n (List.mem_cons_of_mem _ hn)
      cases hk : (k == NameKind.free) with
      | false =>
        simp only [Bool.false_eq_true, if_false]
        rw [pure_bind]
        exact ih acc hr
      | true =>
        have hk' : k = .free := by simpa using hk
        subst hk'
        obtain ⟨a, ha⟩ := Option.isSome_iff_exists.mp (hh n List.mem_cons_self)
        have hc : cellOf env n = pure a := by unfold cellOf; rw [ha]
        simp only [if_true, hc, pure_bind, ha, Option.getD_some]
        exact ih _ hr
  have := key scope.names [] h
  first
    | (simp only [bind_pure]; exact this)
    | (rw [show (_ : Sem (List (Str × Addr))) = _ from rfl]; simpa using this)
end Mine
namespace Mine
open PySem PySem.W PySem.Calls PyProof.Rows

noncomputable def capSlots : List Nat → St → Option (List Slot × St)
  | [], st => some ([], st)
  | i :: r, st => match st.ρ[i]? with
    | some (.own x) => (capSlots r ⟨st.ρ.set i (.sh x), st.ts⟩).map fun p => (.sh x :: p.1, p.2)
    | some (.sh x) => (capSlots r st).map fun p => (.sh x :: p.1, p.2)
    | some .tape => (capSlots r st).map fun p => (.tape :: p.1, p.2)
    | _ => none
noncomputable def cLoop (store : PyData → St → Option St) (Ft : BF) (Fe : EF) : List PyData → List PyData → St → Out (List PyData)
  | [], acc, st => .ok acc st
  | x :: xs, acc, st => match store x st with
    | none => .stuck
    | some st1 => (Ft st1).bind fun b st2 => match b with
      | false => cLoop store Ft Fe xs acc st2
      | true => (Fe st2).bind fun av st3 => match av.share st3 with
        | some (y, st4) => if acc.length ≤ 9999 then cLoop store Ft Fe xs (acc ++ [y]) st4 else .stuck
        | none => .stuck
noncomputable def compD (k : Nat) (caps : List Nat) (store : PyData → St → Option St) (Ft : BF) (Fe : EF) (xs : List PyData) (st : St) : Out AV := match capSlots caps st with
  | some (sls, st1) => (cLoop store Ft Fe xs [] ⟨List.replicate k .unset ++ sls, st1.ts⟩).bind fun acc st2 => .ok (.dat (.list acc) true) ⟨st1.ρ, st2.ts⟩
  | none => .stuck

section
variable {G : GC} {c : FC} {st st0 st1 st2 st3 st' : St} {vs vs0 vs1 : Nat → Value} {s s0 s1 s' : Shared} {v : Value} {av : AV} {x : PyData} {sc : Scope} {vars : List Str} {n : Nat} {A : Around} {M : Model} {E : Value → Shared → Prop}

theorem capSlots_sound (ok : c.Ok G) : ∀ {is : List Nat} {st st' : St} {sls : List Slot}, SR G c st vs s → capSlots is st = some (sls, st') →
    SR G c st' vs s ∧ Shares st'.ρ st.ρ ∧ st'.ts = st.ts ∧ sls.length = is.length ∧ ∀ (j i : Nat), is[j]? = some i → ∃ sl : Slot, sls[j]? = some sl ∧ st'.ρ[i]? = some sl ∧ ((∃ x, sl = .sh x) ∨ sl = .tape) := by
  intro x_
  induction x_ with
  | nil =>
    intro st st' sls r e
    simp only [capSlots, Option.some.injEq, Prod.mk.injEq] at e
    obtain ⟨rfl, rfl⟩ := e
    exact ⟨r, .refl _, rfl, rfl, fun j i h => by simp at h⟩
  | cons i is ih =>
    intro st st' sls r e
    have fin : ∀ {st1 : St} {sl : Slot}, SR G c st1 vs s → Shares st1.ρ st.ρ → st1.ts = st.ts → st1.ρ[i]? = some sl → ((∃ x, sl = .sh x) ∨ sl = .tape) → (capSlots is st1).map (fun p => (sl :: p.1, p.2)) = some (sls, st') →
        SR G c st' vs s ∧ Shares st'.ρ st.ρ ∧ st'.ts = st.ts ∧ sls.length = (i :: is).length ∧ ∀ (j i' : Nat), (i :: is)[j]? = some i' → ∃ sl : Slot, sls[j]? = some sl ∧ st'.ρ[i']? = some sl ∧ ((∃ x, sl = .sh x) ∨ sl = .tape) := by
      intro st1 sl r1 z1 t1 h1 hsl e1
      obtain ⟨p, e2, e3⟩ := Option.map_eq_some_iff.mp e1
      obtain ⟨sls2, st2⟩ := p
      simp only [Prod.mk.injEq] at e3
      obtain ⟨rfl, rfl⟩ := e3
      obtain ⟨r2, z2, t2, l2, h2⟩ := ih r1 e2
      refine ⟨r2, z2.trans z1, t2.trans t1, by simp [l2], fun j i' hj => ?_⟩
      cases j with
      | zero =>
        simp at hj
        subst hj
        refine ⟨sl, rfl, ?_, hsl⟩
        obtain ⟨s2, e2, hh⟩ := z2.2 i sl h1
        rcases hh with rfl | ⟨y, rfl, _⟩
        · exact e2
        · rcases hsl with ⟨_, q⟩ | q <;> cases q
      | succ j => exact h2 j i' (by simpa using hj)
    unfold capSlots at e
    split at e
    · rename_i y hy
      have va : VR G.w c st.ρ vs s.heap (vs i) (.var i) := ⟨rfl, _, y, hy, .inl rfl⟩
      obtain ⟨r1, z1, _, t1⟩ := share_sound (x := y) (st' := ⟨st.ρ.set i (.sh y), st.ts⟩) ok r va (by simp [AV.share, hy])
      exact fin r1 z1 t1 (by simp [setLt hy]) (.inl ⟨y, rfl⟩) e
    · rename_i y hy
      exact fin r (.refl _) rfl hy (.inl ⟨y, rfl⟩) e
    · rename_i hy
      exact fin r (.refl _) rfl hy (.inr rfl) e
    · cases e

theorem funFrames_sameBut {h0 h h' base : Heap} {C : Addr} (hC : h0.get? C = none) (sb : Heap.SameBut C h h') : ∀ {l : List Env}, h0.FunFrames base l → h.FunFrames base l → h'.FunFrames base l := by
  intro x_
  induction x_ with
  | nil =>
    intro _ _
    exact trivial
  | cons env rest ih =>
    rintro ⟨_, ⟨L0, o0, hf0, _, ho0, _⟩, hr0⟩ ⟨hk, ⟨L, o, hf, hn, ho, hd⟩, hr⟩
    have : L0 = L := by rw [hf0] at hf; exact Option.some.inj hf
    subst this
    exact ⟨hk, ⟨L0, o, hf, hn, (sb.2 L0 fun q => by rw [q, hC] at ho0; cases ho0).trans ho, hd⟩, ih hr0 hr⟩

theorem setFlight_some {base : Heap} {l : List Env} {e L : Addr} {cls a0 fl : Value} {Q : Unit → Shared → Prop}
    (hkb : base.StaysIn s.heap) (hl : s.heap.FunFrames base l) (ht : s.heap.TracedAtW base e cls a0 fl)
    (h : ∀ h', base.StaysIn h' → h'.FunFrames base l → h'.TracedAtW base e cls a0 (rawInt L) → s.heap.UpToSlots h' → Q () { s with heap := h' }) :
    wpAny M A (setFlight (.ref e) (some L)) Q E s := by
  refine hide fun b_ hb_ => ?_
  obtain ⟨oe, vs, T, oT, ts, he, hcls, hd, h1, hnT, hTe, hT, hdT, h3⟩ := ht
  refine hb_ ?_
  have hsz3 : 3 < ts.size := (Array.getElem?_eq_some_iff.mp h3).1
  have other : ∀ b, b ≠ T → (s.heap.update T (Obj.mapFields (·.setIfInBounds 3 ((some L : Option Addr).elim Value.none fun f => rawInt f)))).get? b = s.heap.get? b :=
    fun b hb => Heap.get?_update_other _ _ (Ne.symm hb)
  have noRecord : ∀ b o, s.heap.get? b = some o → (∀ vs, o.data ≠ .fields vs) → b ≠ T := fun b o hb hnf q => by
    rw [q, hT] at hb; injection hb with hb; subst hb; exact hnf ts hdT
  unfold setFlight
  refine wpAny_bind (wpAny_field he hd h1 ?_)
  rw [if_pos (show (Value.ref T != Value.none) = true from by simp)]
  refine wpAny_setField hT hdT hsz3 (h _ (fun b o hbo => (other b fun q => by rw [q, hnT] at hbo; cases hbo).trans (hkb b o hbo))
    (hl.of_keeps fun b o hb hnf => ⟨o, (other b (noRecord b o hb hnf)).trans hb, rfl⟩) ?_ fun b o hb hnf => ⟨o.slots, (other b (noRecord b o hb hnf)).trans hb⟩)
  exact ⟨oe, vs, T, _, _, (other e (Ne.symm hTe)).trans he, hcls, hd, h1, hnT, hTe, Heap.get?_update_self _ hT (Obj.isFreed_of_fields (Obj.data_mapFields hdT _)), Obj.data_mapFields hdT _, by simp [hsz3]⟩

theorem compError {β γ : Type} {o : Out β} {o1 : Out γ} {c' : FC} {e : Value} (S : Surr G c n A) (S' : Surr G c' n A) (r1 : SR G c st vs s1) (hf : c'.fenv = c.fenv) (ho : c'.outer = c.outer) (hτ : c'.τ = c.τ) (hhin : c'.hin = s1.heap)
    (hC : s1.heap.get? c'.L = none) (hg : c'.g = c.g) (hd : c'.d = c.d) (hos : c'.o = c.o) (h : o1 = .raise → o = .raise) (q : EE G c' o1 e s') :
    notedBy G.M A c'.env (fun e s' => ∃ m, s'.heap.Ns c'.env.locals m ∧ ∀ h', Heap.SameBut c'.env.locals s'.heap h' → wpAny G.M A (PySem.passOn "comprehension.variables-let-go" e c'.env : Sem Value) (fun _ _ => False) (EE G c o) { s' with heap := h' }) e s' := by
  refine hide fun b_ hb_ => ?_
  obtain ⟨er, ea, rfl, ⟨hst, hbase, ff, a0, Lf, hfe, hcase⟩, up, rst, mL, oL, esL, epL, hoL, hdL, hrL⟩ := q
  refine hb_ ?_
  have hfe' : c'.env.frame = some Lf := S'.ok.frame.trans hfe
  have ff' : s1.heap.FunFrames G.H (c'.fenv :: c'.outer) := by rw [hf, ho]; exact r1.frames
  have CH : G.H.get? c'.L = none := by
    cases z : G.H.get? c'.L with
    | none => rfl
    | some o => have := base_stays S.ok r1 _ _ z; rw [hC] at this; cases this
  have fin : ∀ (h1 : Heap), G.H.StaysIn h1 → h1.FunFrames G.H (c'.fenv :: c'.outer) → h1.TracedAtW G.H ea (.ref G.C) a0 (rawInt Lf) → s'.heap.UpToSlots h1 →
      ∃ m, h1.Ns c'.env.locals m ∧ ∀ h', Heap.SameBut c'.env.locals h1 h' → wpAny G.M A (PySem.passOn "comprehension.variables-let-go" (.ref ea) c'.env : Sem Value) (fun _ _ => False) (EE G c o) { s' with heap := h' } := by
    intro h1 k1 k2 k3 k4
    obtain ⟨sl1, e1⟩ := k4 _ _ hoL (fun fs z => by rw [hdL] at z; cases z)
    rw [S'.ok.locals]
    refine ⟨mL, ⟨_, esL, epL, e1, hdL, hrL⟩, fun h' sb => ?_⟩
    -- the exception's own places are not the comprehension's
    refine hide fun b_ hb_ => ?_
    obtain ⟨oe, ve, T, oT, ts, he, hcls, hde, h1e, hnT, hTe, hT, hdT, h3⟩ := k3
    refine hb_ ?_
    have eC : ea ≠ c'.L := get_ne he e1 (by rw [hde]; show _ ≠ oL.data; rw [hdL]; intro z; cases z)
    have TC : T ≠ c'.L := get_ne hT e1 (by rw [hdT]; show _ ≠ oL.data; rw [hdL]; intro z; cases z)
    have j1 : G.H.StaysIn h' := fun b ob q => (sb.2 b fun z => by subst z; rw [CH] at q; cases q).trans (k1 b ob q)
    have j2 : h'.FunFrames G.H (c'.fenv :: c'.outer) := funFrames_sameBut hC sb ff' k2
    have j3 : h'.TracedAtW G.H ea (.ref G.C) a0 (rawInt Lf) := ⟨oe, ve, T, oT, ts, (sb.2 _ eC).trans he, hcls, hde, h1e, hnT, hTe, (sb.2 _ TC).trans hT, hdT, h3⟩
    unfold PySem.passOn
    rw [hfe']
    refine wpAny_bind (wpAny_field (s := { s' with heap := h' }) ((sb.2 _ eC).trans he) hde h1e ?_)
    rw [if_neg (by simp)]
    refine wpAny_bind (setFlight_some (s := { s' with heap := h' }) (base := G.H) (l := c'.fenv :: c'.outer) j1 j2 j3 fun h2 i1 i2 i3 i4 => wpAny_throw ?_)
    refine hide fun b_ hb_ => ?_
    obtain ⟨m0, o0, es0, ep0, ho0, hd0, hr0⟩ := r1.nsL
    have L0τ : c.L ≠ c.τ := SR.own_ne S.ok (S.ok.Wnew _ S.ok.WL)
    rw [hτ, hhin] at up
    have upall : UpTo c.τ s1.heap h2 := by
      intro b ob eb nb nf
      refine hide fun b_ hb_ => ?_
      obtain ⟨sla, ea1⟩ := up b ob eb nb nf
      obtain ⟨slb, eb1⟩ := k4 b _ ea1 nf
      have ec1 : h'.get? b = some { ob with slots := slb } := (sb.2 b fun z => by subst z; rw [hC] at eb; cases eb).trans eb1
      obtain ⟨slc, ec2⟩ := i4 b { ob with slots := slb } ec1 nf
      refine hb_ ?_
      exact ⟨slc, ec2⟩
    obtain ⟨sl0, e0⟩ := upall _ _ ho0 L0τ (fun fs z => by rw [hd0] at z; cases z)
    refine hb_ ?_
    refine ⟨h er, ea, rfl, ⟨i1, hbase, ?_, a0, Lf, ?_, .inr (.inr i3)⟩, ?_, ?_, m0, _, es0, ep0, e0, hd0, hr0⟩
    · rw [hf, ho] at i2; exact i2
    · rw [← hf]; exact hfe
    · intro b ob eb nb nf
      exact upall b ob (r1.keep b ob nb eb) nb nf
    · rw [hg, hd, hos] at rst; exact rst
  unfold notedBy
  rw [noteFrame_frame S'.ok.frame]
  rcases hcase with ⟨oe, ve, he, hc, hd', h1, h0⟩ | ht | ht
  · refine wpAny_noteFrame_madeW S'.fr ff hfe he hst hbase hd' h1 h0 fun h' hN => ?_
    refine hide fun b_ hb_ => ?_
    obtain ⟨k1, k2, k3, k4⟩ := hN
    refine hb_ ?_
    rw [hc] at k3
    exact fin h' k1 k2 k3 k4
  · refine wpAny_noteFrame_onW S'.fr ff hfe ht hst hbase fun h' hN => ?_
    refine hide fun b_ hb_ => ?_
    obtain ⟨k1, k2, k3, k4⟩ := hN
    refine hb_ ?_
    exact fin h' k1 k2 k3 k4
  · exact wpAny_noteFrame_againW hfe ht (fin s'.heap hst ff ht (Heap.UpToSlots.refl _))
end
end Mine
namespace Mine
open PySem PySem.W PySem.Calls PyProof.Rows

inductive Tests (G : GC) (sc : Scope) (vars : List Str) (n : Nat) : List Expr → BF → Prop
  | nil : Tests G sc vars n [] (fun st => .ok true st)
  | one {e F} : SB G sc vars n e F → Tests G sc vars n [e] F

section
variable {G : GC} {c : FC} {st st0 st1 st2 st3 st' : St} {vs vs0 vs1 : Nat → Value} {s s0 s1 s2 s' : Shared} {v : Value} {av : AV} {x : PyData} {sc : Scope} {vars : List Str} {n : Nat} {A : Around} {M : Model} {E : Value → Shared → Prop}

theorem Tests.use {ifs : List Expr} {Ft : BF} (h : Tests G sc vars n ifs Ft) (hsc : c.env.scope = sc) (hv : c.vars = vars) (S : Surr G c n A) (r : SR G c st vs s) {β : Type} {k : Bool → St → Out β} {o : Out β}
    (ho : (Ft st).bind k = o) (ns : o ≠ .stuck) {K : Bool → Shared → Prop}
    (next : ∀ b st1 s1, k b st1 = o → SR G c st1 vs s1 → KeepBut c.τ s.heap s1.heap → Shares st1.ρ st.ρ → K b s1) :
    wpAny G.M A (forIn ifs true fun e r => if r = true then do let ok ← isTrue e c.env (eval e c.env); pure (ForInStep.yield ok) else pure (ForInStep.yield r)) K (EE G c o) s := by
  cases h with
  | nil => exact wpAny_tests_nil (next true st s ho r (.refl _ _) (.refl _))
  | one h => exact wpAny_tests_one (h.use hsc hv S r ho ns next)

theorem SR.stepW {D : Addr} {h' : Heap} {tk : Nat} {items items' : Array Value} {m m' : Nat} (ok : c.Ok G) (r : SR G c st vs s) (hW : c.W D) (hD : s.heap.get? D = some (LObj items m)) (hD' : h'.get? D = some (LObj items' m'))
    (sm : ∀ b, b ≠ D → h'.get? b = s.heap.get? b) : SR G c st vs { s with heap := h', toks := tk } := by
  have km : ∀ b o, s.heap.get? b = some o → ¬ c.Ban st.ρ vs b → h'.get? b = some o ∧ ¬ c.Ban st.ρ vs b := fun b o e nb => ⟨(sm b fun q => nb (.inr (.inl (q ▸ hW)))).trans e, nb⟩
  have hin : c.hin.get? D = none := ok.Wnew D hW
  refine ⟨r.len, fun i n sl h1 h2 => ?_, fun i sl h => ?_, r.uniq, ?_, fun b o nb e => (sm b fun q => by subst q; rw [hin] at e; cases e).trans (r.keep b o nb e), ?_, r.rest, fun b hb => ?_, ?_⟩
  · have va := r.var i n sl h1 h2
    unfold VarAt at va ⊢
    split at va
    · obtain ⟨m, ⟨o, es, ep, ho, hd, rr⟩, e⟩ := va
      exact ⟨m, ⟨o, es, ep, (sm _ (get_ne ho hD (by rw [hd]; intro z; cases z))).trans ho, hd, rr⟩, e⟩
    · obtain ⟨ca, e, o, ho, hd⟩ := va
      exact ⟨ca, e, o, (sm _ (get_ne ho hD (by rw [hd]; intro z; cases z))).trans ho, hd⟩
    · exact va
  · have z := r.slot i sl h
    unfold SlotR at z ⊢
    cases sl with
    | unset => trivial
    | sh y => exact z.mono km
    | own y => obtain ⟨a, e, t, f1, f2⟩ := z; exact ⟨a, e, t.mono km (fun o q => (sm a fun w => f2 (w ▸ hW)).trans q), f1, f2⟩
    | lent y => obtain ⟨a, e, t, f1, f2⟩ := z; exact ⟨a, e, t.mono km (fun o q => (sm a fun w => f2 (w ▸ hW)).trans q), f1, f2⟩
    | tape => exact z
  · obtain ⟨tv, tn, te, ti⟩ := r.tape
    exact ⟨tv, tn, (sm _ (Ne.symm (SR.own_ne ok hin))).trans te, ti⟩
  · refine funFrames_nf (fun b ob e nf => ?_) r.frames
    by_cases q : b = D
    · subst q; exact ⟨_, hD', fun fs z => by cases z⟩
    · exact ⟨ob, (sm b q).trans e, nf⟩
  · by_cases q : b = D
    · subst q; exact ⟨_, hD'⟩
    · obtain ⟨o, e⟩ := r.wIn b hb
      exact ⟨o, (sm b q).trans e⟩
  · obtain ⟨m, o, es, ep, ho, hd, hr⟩ := r.nsL
    exact ⟨m, o, es, ep, (sm _ (get_ne ho hD (by rw [hd]; intro z; cases z))).trans ho, hd, hr⟩

theorem Shares.noOwn {ρ ρ' : List Slot} (z : Shares ρ' ρ) (no : ∀ (j : Nat) (sl : Slot), ρ[j]? = some sl → sl.owned = none) : ∀ (j : Nat) (sl : Slot), ρ'[j]? = some sl → sl.owned = none := by
  intro j sl hj
  have hi : j < ρ.length := by rw [← z.1]; exact setLt hj
  obtain ⟨s1, e1, h4⟩ := z.2 j ρ[j] (List.getElem?_eq_getElem hi)
  rw [hj] at e1
  cases e1
  rcases h4 with h4 | ⟨y, _, h5⟩
  · exact no j sl (by rw [List.getElem?_eq_getElem hi, h4])
  · subst h5; rfl
theorem ban_noOwn {ρ : List Slot} (no : ∀ (j : Nat) (sl : Slot), ρ[j]? = some sl → sl.owned = none) {b : Addr} (h : c.Ban ρ vs b) : c.B b ∨ c.W b ∨ b = c.τ := by
  rcases h with h | h | h | ⟨j, sl, y, h1, h2, _⟩
  · exact .inl h
  · exact .inr (.inl h)
  · exact .inr (.inr h)
  · rw [no j sl h1] at h2; cases h2

structure CFrame (G : GC) (c c' : FC) (s1 : Shared) (C D : Addr) (B1 : Addr → Prop) : Prop where
  fenv : c'.fenv = c.fenv
  outer : c'.outer = c.outer
  τ : c'.τ = c.τ
  hin : c'.hin = s1.heap
  L : c'.L = C
  g : c'.g = c.g
  d : c'.d = c.d
  o : c'.o = c.o
  W : ∀ b, c'.W b ↔ (b = C ∨ b = D)
  B : ∀ b, c'.B b ↔ B1 b
  C1 : s1.heap.get? C = none
  D1 : s1.heap.get? D = none

structure CDone (G : GC) (c : FC) (s1 s' : Shared) (C D : Addr) (B1 : Addr → Prop) (acc : List PyData) (ts : List Int) : Prop where
  keep : KeepBut c.τ s1.heap s'.heap
  tape : TapeAt G.I s'.heap c.τ ts
  ns : ∃ m, s'.heap.Ns C m
  C1 : s1.heap.get? C = none
  D1 : s1.heap.get? D = none
  ne : C ≠ D
  obj : ∃ items m, s'.heap.get? D = some (LObj items m) ∧ RdAll G.w s'.heap (fun b => B1 b ∨ b = C ∨ b = D) items.toList acc
  rest : s'.gens = c.g ∧ s'.drawn = c.d ∧ s'.os = c.o

theorem compCore {c' : FC} {C D : Addr} {B1 : Addr → Prop} {cs' : Scope} {cvars : List Str} {tgt elt iter : Expr} {ifs : List Expr} {cscope : Scope} {pos : Pos} {store : PyData → St → Option St} {Ft : BF} {Fe : EF}
    (T : Tgt G cs' cvars n true tgt store) (ht : Tests G cs' cvars n ifs Ft) (he : SE G cs' cvars n elt Fe) (K : CFrame G c c' s1 C D B1) (hB1 : B1 c.τ)
    (hsc : c'.env.scope = cs') (hv : c'.vars = cvars) (S : Surr G c n A) (S' : Surr G c' n A) (rc : SR G c st vs s1) (r : SR G c' st0 vs0 s) (no0 : ∀ (j : Nat) (sl : Slot), st0.ρ[j]? = some sl → sl.owned = none)
    {xs : List PyData} {β : Type} {o : Out β} {o1 : Out (List PyData)} (eo : cLoop store Ft Fe xs [] st0 = o1) (ns : o1 ≠ .stuck) (hr : o1 = .raise → o = .raise)
    {I : Addr} {fp : List Addr} {P : Nat → Value → Prop} {Sh : Nat → Heap → Prop} (W : Walks G.prog G.w A I fp [I] xs.length P Sh) (hst : Sh 0 s.heap) (hI1 : s1.heap.get? I = none) (hIC : I ≠ C) (hID : I ≠ D)
    (fld : ∀ i h, Sh i h → ∃ o T fs, h.get? I = some o ∧ o.cls = .type T ∧ o.data = .fields fs ∧ ownsTuples.contains T = false)
    (hfp : ∀ b ∈ fp, b ≠ I → b ≠ c.τ ∧ ∃ o, s1.heap.get? b = some o)
    (hP : ∀ i v, i < xs.length → P i v → ∃ x, xs[i]? = some x ∧ Rd G.w s1.heap B1 v x)
    (hD0 : ∃ m, s.heap.get? D = some (LObj #[] m))
    {R : Result → Shared → Prop} (hok : ∀ acc stF s', o1 = .ok acc stF → CDone G c s1 s' C D B1 acc stF.ts → R (.ok .next) s')
    (hRe : ∀ e s', (∃ m, s'.heap.Ns c'.env.locals m ∧ ∀ h', Heap.SameBut c'.env.locals s'.heap h' → wpAny G.M A (PySem.passOn "comprehension.variables-let-go" e c'.env : Sem Value) (fun _ _ => False) (EE G c o) { s' with heap := h' }) → R (.error e) s') :
    codeAny G.M A (.compLoop (.ListComp elt [⟨tgt, iter, ifs, 0⟩] cscope pos) 0 (.ref I) (.ref D) c'.env) R s := by
  -- an exception of the frame
  have hE : ∀ e s', EE G c' o1 e s' → notedBy G.M A c'.env (fun e s' => R (.error e) s') e s' := fun e s' q => by
    have z := compError (o := o) S S' rc K.fenv K.outer K.τ K.hin (by rw [K.L]; exact K.C1) K.g K.d K.o hr q
    unfold notedBy at z ⊢
    exact wpAny_mono z (fun _ s2 q => hRe _ _ q) fun _ s2 q => hRe _ _ q
  have Ifld : ∀ i h, Sh i h → ∃ o fs, h.get? I = some o ∧ o.data = .fields fs := fun i h q => let ⟨o, T, fs, a, _, b, _⟩ := fld i h q; ⟨o, fs, a, b⟩
  have hin : c'.hin.get? I = none := by rw [K.hin]; exact hI1
  have hWI : ¬ c'.W I := fun q => by rcases (K.W I).mp q with q | q; exact hIC q; exact hID q
  have WD : c'.W D := (K.W D).mpr (.inr rfl)
  have Iτ : I ≠ c'.τ := SR.own_ne S'.ok hin
  have fpAll : ∀ {st1 vs1 s'}, SR G c' st1 vs1 s' → ∀ b ∈ fp, b ≠ I → ∃ o, s1.heap.get? b = some o ∧ s'.heap.get? b = some o := fun {st1 vs1 s'} r b hb nI => by
    obtain ⟨nτ, o, e⟩ := hfp b hb nI
    refine ⟨o, e, r.keep b o (by rw [K.τ]; exact nτ) (by rw [K.hin]; exact e)⟩
  -- the loop's state carried over
  have frameSt : ∀ {i : Nat} {st1 st2 : St} {vs1 vs2 : Nat → Value} {sa sb : Shared}, Sh i sa.heap → SR G c' st1 vs1 sa → SR G c' st2 vs2 sb → (∀ o, sa.heap.get? I = some o → sb.heap.get? I = some o) → Sh i sb.heap := by
    intro i st1 st2 vs1 vs2 sa sb h ra rb kI
    refine W.frame _ _ _ h fun b hb o e => ?_
    by_cases q : b = I
    · subst q; exact kI o e
    · refine hide fun b_ hb_ => ?_
      obtain ⟨o1, e1, ea⟩ := fpAll ra b hb q
      obtain ⟨o2, e2, eb⟩ := fpAll rb b hb q
      rw [e1] at e2; cases e2
      rw [ea] at e; cases e
      refine hb_ ?_
      exact eb
  have b0 : ∀ {st1 : St} {vs1 : Nat → Value}, (∀ (j : Nat) (sl : Slot), st1.ρ[j]? = some sl → sl.owned = none) → ∀ b, c'.Ban st1.ρ vs1 b ↔ (B1 b ∨ b = C ∨ b = D) := by
    intro st1 vs1 no b
    constructor
    · intro h
      rcases ban_noOwn no h with h | h | h
      · exact .inl ((K.B b).mp h)
      · exact .inr ((K.W b).mp h)
      · rw [h, K.τ]; exact .inl hB1
    · rintro (h | h)
      · exact .inl ((K.B b).mpr h)
      · exact .inr (.inl ((K.W b).mpr h))
  obtain ⟨m0, e0⟩ := hD0
  refine compLoop_go (fun k s' => ∃ i acc st1 vs1, i ≤ xs.length ∧ k = xs.length + 1 - i ∧ cLoop store Ft Fe (xs.drop i) acc st1 = o1 ∧ SR G c' st1 vs1 s' ∧ (∀ (j : Nat) (sl : Slot), st1.ρ[j]? = some sl → sl.owned = none) ∧ Sh i s'.heap ∧
      ∃ items m, s'.heap.get? D = some (LObj items m) ∧ RdAll G.w s'.heap (fun b => B1 b ∨ b = C ∨ b = D) items.toList acc) ?_ (xs.length + 1) ⟨0, [], st0, vs0, Nat.zero_le _, rfl, by simpa using eo, r, no0, hst, #[], m0, e0, .nil⟩
  rintro k sa ⟨i, acc, st1, vs1, hi, rfl, e1, r1, no1, hst1, items, m, hDa, rda⟩
  refine wpAny_mono (E := EE G c' o1) ?_ (fun _ _ q => q) hE
  by_cases hlt : i < xs.length
  · refine W.item i sa _ _ hlt hst1 fun v h' tk hPv hst2 hk => ?_
    have hk' : ∀ b o, b ≠ I → sa.heap.get? b = some o → h'.get? b = some o := fun b o nb e => hk b o (by simpa using nb) e
    have r2 : SR G c' st1 vs1 { sa with heap := h', toks := tk } := r1.stepX S'.ok (Ifld _ _ hst1) hin hWI hk'
    have nI2 := not_banM_fields r2 (Ifld _ _ hst2) S'.ok hin hWI
    obtain ⟨x, hx, rd0⟩ := hP i v hlt hPv
    have rd1 : Rd G.w h' (c'.Ban st1.ρ vs1) v x := rd0.mono fun b o e nb => by
      have bτ : b ≠ c.τ := fun q => nb (q ▸ hB1)
      refine ⟨r2.keep b o (by rw [K.τ]; exact bτ) (by rw [K.hin]; exact e), fun q => ?_⟩
      rcases (b0 no1 b).mp q with q | q | q
      · exact nb q
      · rw [q, K.C1] at e; cases e
      · rw [q, K.D1] at e; cases e
    have hd : xs.drop i = x :: xs.drop (i + 1) := by
      rw [List.drop_eq_getElem_cons hlt]
      rw [List.getElem?_eq_getElem hlt] at hx
      rw [Option.some.inj hx]
    rw [hd] at e1
    simp only [cLoop] at e1
    have hD2 : h'.get? D = some (LObj items m) := hk' D _ (Ne.symm hID) hDa
    have rda2 : RdAll G.w h' (fun b => B1 b ∨ b = C ∨ b = D) items.toList acc := rda.monoN fun b o e nf nb => ⟨hk' b o (fun q => by subst q; obtain ⟨oI, fs, eI, dI⟩ := Ifld _ _ hst1; rw [eI] at e; cases e; exact nf _ dI) e, nb⟩
    cases es : store x st1 with
    | none => rw [es] at e1; exact absurd e1.symm ns
    | some st2 =>
      rw [es] at e1
      simp only at e1
      refine wpAny_mono (T.go A { sa with heap := h', toks := tk } I v (fun _ _ => False) (fun _ s2 => s2 = { sa with heap := h', toks := tk }) (fld _ _ hst2) rfl) (fun _ s2 es2 => ?_) fun _ _ q => q.elim
      subst es2
      refine wpAny_mono (E := EE G c' o1) ?_ (fun _ _ q => q) hE
      refine T.put c' A st1 vs1 _ v x st2 _ _ hsc hv (.inr rfl) S' r2 rd1 es fun vs2 s3 r3 k3 kl3 => ?_
      have no3 := T.noOwn x st1 st2 es no1
      have hst3 : Sh (i + 1) s3.heap := frameSt hst2 r2 r3 fun o e => k3.keep I o e nI2
      have rda3 : RdAll G.w s3.heap (fun b => B1 b ∨ b = C ∨ b = D) items.toList acc := rda2.mono fun b o e nb => ⟨k3.keep b o e (fun q => nb ((b0 no1 b).mp (banM_ban q))), nb⟩
      have hDL : D ≠ c'.L := by
        rw [K.L]
        intro q
        refine hide fun b_ hb_ => ?_
        obtain ⟨m2, o2, es2, ep2, ho2, hd2, _⟩ := r1.nsL
        rw [K.L, ← q, hDa] at ho2
        cases ho2
        cases hd2
      have hD3 : s3.heap.get? D = some (LObj items m) := kl3 rfl D _ hDL hD2
      refine wpAny_mono (E := EE G c' o1) ?_ (fun _ _ q => q) hE
      refine ht.use hsc hv S' r3 e1 ns fun b st4 s4 e4 q1 q2 q3 => ?_
      have no4 := q3.noOwn no3
      have hst4 : Sh (i + 1) s4.heap := frameSt hst3 r3 q1 fun o e => q2 I o Iτ e
      have rda4 : RdAll G.w s4.heap (fun b => B1 b ∨ b = C ∨ b = D) items.toList acc := rda3.mono fun b o e nb => ⟨q2 b o (fun q => nb (.inl (by rw [q, K.τ]; exact hB1))) e, nb⟩
      have Dτ : D ≠ c'.τ := SR.own_ne S'.ok (by rw [K.hin]; exact K.D1)
      have hD4 : s4.heap.get? D = some (LObj items m) := q2 D _ Dτ hD3
      cases b with
      | false =>
        rw [if_neg (by decide)]
        exact ⟨xs.length + 1 - (i + 1), by omega, i + 1, acc, st4, vs2, hlt, rfl, e4, q1, no4, hst4, items, m, hD4, rda4⟩
      | true =>
        rw [if_pos rfl]
        refine wpAny_mono (E := EE G c' o1) ?_ (fun _ _ q => q) hE
        refine he.use hsc hv S' q1 e4 ns fun av st5 v5 s5 e5 p1 p2 p3 p4 p5 => ?_
        cases esh : av.share st5 with
        | none => rw [esh] at e5; exact absurd e5.symm ns
        | some pr =>
          obtain ⟨y, st6⟩ := pr
          rw [esh] at e5
          simp only at e5
          split at e5
          case isFalse => exact absurd e5.symm ns
          rename_i hlen
          refine hide fun b_ hb_ => ?_
          obtain ⟨r6, z6, rd6, _⟩ := share_sound S'.ok p1 p4 esh
          refine hb_ ?_
          have no6 := (z6.trans p3).noOwn no4
          have hst5 : Sh (i + 1) s5.heap := frameSt hst4 q1 p1 fun o e => p2 I o Iτ e
          have rda5 : RdAll G.w s5.heap (fun b => B1 b ∨ b = C ∨ b = D) items.toList acc := rda4.mono fun b o e nb => ⟨p2 b o (fun q => nb (.inl (by rw [q, K.τ]; exact hB1))) e, nb⟩
          have hD5 : s5.heap.get? D = some (LObj items m) := p2 D _ Dτ hD4
          have rdy : Rd G.w s5.heap (fun b => B1 b ∨ b = C ∨ b = D) v5 y := rd6.mono fun b o e nb => ⟨e, fun q => nb ((b0 no6 b).mpr q)⟩
          have hl := rda5.length
          simp only [Array.length_toList] at hl
          refine wpAny_list_append_plain (hsz := sizeLine_le (by omega)) ⟨m, hD5⟩ fun h6 hp6 sb6 => ?_
          obtain ⟨m6, e6⟩ := hp6
          have r7 : SR G c' st6 vs2 { s5 with heap := h6 } := r6.stepW (tk := s5.toks) S'.ok WD hD5 e6 fun b q => sb6.2 b q
          have k6 : ∀ b o, s5.heap.get? b = some o → ¬ (B1 b ∨ b = C ∨ b = D) → h6.get? b = some o ∧ ¬ (B1 b ∨ b = C ∨ b = D) := fun b o e nb => ⟨(sb6.2 b fun q => nb (.inr (.inr q))).trans e, nb⟩
          refine ⟨xs.length + 1 - (i + 1), by omega, i + 1, acc ++ [y], st6, vs2, hlt, rfl, e5, r7, no6, ?_, items.push v5, m6, e6, ?_⟩
          · exact frameSt hst5 r6 r7 fun o e => (sb6.2 I hID).trans e
          · rw [Array.toList_push]
            exact (rda5.mono k6).append (.cons (rdy.mono k6) .nil)
  · have hii : i = xs.length := by omega
    subst hii
    refine W.done sa _ _ hst1 fun h' tk hk => ?_
    have hk' : ∀ b o, b ≠ I → sa.heap.get? b = some o → h'.get? b = some o := fun b o nb e => hk b o (by simpa using nb) e
    have r2 : SR G c' st1 vs1 { sa with heap := h', toks := tk } := r1.stepX S'.ok (Ifld _ _ hst1) hin hWI hk'
    simp only [List.drop_length, cLoop] at e1
    have rda2 : RdAll G.w h' (fun b => B1 b ∨ b = C ∨ b = D) items.toList acc := rda.monoN fun b o e nf nb => ⟨hk' b o (fun q => by subst q; obtain ⟨oI, fs, eI, dI⟩ := Ifld _ _ hst1; rw [eI] at e; cases e; exact nf _ dI) e, nb⟩
    refine hok acc st1 _ e1.symm ⟨?_, ?_, ?_, K.C1, K.D1, ?_, ⟨items, m, hk' D _ (Ne.symm hID) hDa, rda2⟩, ?_⟩
    · have := r2.keep; rw [K.τ, K.hin] at this; exact this
    · have := r2.tape; rw [K.τ] at this; exact this
    · have := r2.nsL; rw [K.L] at this; exact this
    · intro q
      refine hide fun b_ hb_ => ?_
      obtain ⟨m2, o2, es2, ep2, ho2, hd2, _⟩ := r1.nsL
      rw [K.L, q, hDa] at ho2
      cases ho2
      cases hd2
    · have := r2.rest; rw [K.g, K.d, K.o] at this; exact this
end
end Mine
namespace Mine
open PySem PySem.W PySem.Calls PyProof.Rows

structure CompOk (sc : Scope) (vars : List Str) (cs : Scope) (tn cn : List Str) (caps : List Nat) : Prop where
  kind : cs.kind = .function
  noCell : ∀ x ∈ cs.names, x.2 ≠ .cell
  names : ∀ x ∈ cs.names, x.2 = .local → cs.names.lookup x.1 = some .local
  tgts : ∀ n ∈ tn, (relabelS cs sc).names.lookup n = some .local
  len : cn.length = caps.length
  cap : ∀ p ∈ cn.zip caps, vars[p.2]? = some p.1 ∧ sc.names.lookup p.1 = some .cell ∧ (relabelS cs sc).names.lookup p.1 = some .cell ∧ (p.1, NameKind.free) ∈ cs.names
  free : ∀ x ∈ cs.names, x.2 = .free → x.1 ∈ cn
  nodup : (tn ++ cn).Nodup

section
variable {G : GC} {c : FC} {st st0 st1 st2 st3 stc st' : St} {vs vs0 vs1 : Nat → Value} {s s0 s1 s2 s' : Shared} {v : Value} {av : AV} {x : PyData} {sc : Scope} {vars : List Str} {n : Nat} {A : Around} {M : Model} {E : Value → Shared → Prop}

theorem capIdx {sc : Scope} {vars : List Str} {cs : Scope} {tn cn : List Str} {caps : List Nat} (K : CompOk sc vars cs tn cn caps) {j : Nat} {nm : Str} (h : cn[j]? = some nm) :
    ∃ i, caps[j]? = some i ∧ vars[i]? = some nm ∧ sc.names.lookup nm = some .cell ∧ (relabelS cs sc).names.lookup nm = some .cell ∧ (nm, NameKind.free) ∈ cs.names := by
  have hj : j < caps.length := by rw [← K.len]; exact setLt'' h
  refine ⟨caps[j], List.getElem?_eq_getElem hj, ?_⟩
  exact K.cap (nm, caps[j]) (List.mem_of_getElem? (i := j) (by rw [List.getElem?_zip_eq_some]; exact ⟨h, List.getElem?_eq_getElem hj⟩))

theorem compRun {cs : Scope} {tn cn : List Str} {caps : List Nat} {tgt elt iter : Expr} {ifs : List Expr} {pos : Pos} {store : PyData → St → Option St} {Ft : BF} {Fe : EF} (K : CompOk sc vars cs tn cn caps)
    (T : Tgt G (relabelS cs sc) (tn ++ cn) n true tgt store) (ht : Tests G (relabelS cs sc) (tn ++ cn) n ifs Ft) (he : SE G (relabelS cs sc) (tn ++ cn) n elt Fe)
    (hsc : c.env.scope = sc) (hv : c.vars = vars) (S : Surr G c n A) {sls : List Slot} (r0 : SR G c st vs s1) (ec : capSlots caps st = some (sls, stc))
    {xs : List PyData} {β : Type} {o : Out β} {o1 : Out (List PyData)} (eo : cLoop store Ft Fe xs [] ⟨List.replicate tn.length .unset ++ sls, stc.ts⟩ = o1) (ns : o1 ≠ .stuck) (hr : o1 = .raise → o = .raise)
    (k12 : KeepAll s1.heap s2.heap) (rest12 : s2.gens = s1.gens ∧ s2.drawn = s1.drawn ∧ s2.os = s1.os)
    {I : Addr} {fp : List Addr} {P : Nat → Value → Prop} {Sh : Nat → Heap → Prop} (W : Walks G.prog G.w A I fp [I] xs.length P Sh) (hst : Sh 0 s2.heap) (hI1 : s1.heap.get? I = none) (hI2 : ∃ o, s2.heap.get? I = some o)
    (fld : ∀ i h, Sh i h → ∃ o T fs, h.get? I = some o ∧ o.cls = .type T ∧ o.data = .fields fs ∧ ownsTuples.contains T = false)
    (hfp : ∀ b ∈ fp, b ≠ I → b ≠ c.τ ∧ ∃ o, s1.heap.get? b = some o)
    (hP : ∀ i v, i < xs.length → P i v → ∃ x, xs[i]? = some x ∧ Rd G.w s1.heap (c.Ban stc.ρ vs) v x)
    {use : Option (Value → Sem Unit)} {Q : Value → Shared → Prop}
    (hok : ∀ acc stF s' D C, o1 = .ok acc stF → CDone G c s1 s' C D (c.Ban stc.ρ vs) acc stF.ts → ∀ cenv : Env, cenv.locals = C → cPost G.M A (EE G c o) use Q (.ref D) cenv (.ok .next) s') :
    wpAny G.M A (newList []) (fun acc s3 => closureFor cs c.env = pure (closS c.env.cells cs.names []) ∧
      wpAny G.M A (newFunctionEnv cs c.env.globals (closS c.env.cells cs.names []) [] c.env.qual none .none (some c.env)) (fun cenv s4 =>
        codeAny G.M A (.compStart (.ListComp elt [⟨tgt, iter, ifs, 0⟩] cs pos) 0 (.ref I) acc { cenv with scope := relabel cs c.env }) (cPost G.M A (EE G c o) use Q acc { cenv with scope := relabel cs c.env }) s4) (EE G c o) s3) (EE G c o) s2 := by
  refine hide fun b_ hb_ => ?_
  obtain ⟨rc, zc, tc, lc, hc⟩ := capSlots_sound S.ok r0 ec
  refine hb_ ?_
  -- a captured name's cell
  have cellOfName : ∀ (j : Nat) (nm : Str), cn[j]? = some nm → ∃ i ca sl, caps[j]? = some i ∧ sls[j]? = some sl ∧ stc.ρ[i]? = some sl ∧ ((∃ x, sl = Slot.sh x) ∨ sl = .tape) ∧ c.env.cells.lookup nm = some ca ∧ s1.heap.IsCell ca (some (vs i)) := by
    intro j nm hj
    refine hide fun b_ hb_ => ?_
    obtain ⟨i, hi, h1, h2, h3, h4⟩ := capIdx K hj
    obtain ⟨sl, e1, e2, e3⟩ := hc j i hi
    refine hb_ ?_
    have va := rc.var i nm sl (by rw [hv]; exact h1) e2
    have hk : c.env.kindOf nm = some .cell := by unfold Env.kindOf; rw [hsc]; exact h2
    unfold VarAt at va
    rw [hk] at va
    obtain ⟨ca, hca, hcell⟩ := va
    refine ⟨i, ca, sl, hi, e1, e2, e3, hca, ?_⟩
    rcases e3 with ⟨x, rfl⟩ | rfl <;> exact hcell
  have freeCell : ∀ nm, (nm, NameKind.free) ∈ cs.names → (c.env.cells.lookup nm).isSome = true := by
    intro nm hm
    refine hide fun b_ hb_ => ?_
    obtain ⟨j, hj⟩ := List.mem_iff_getElem?.mp (K.free _ hm rfl)
    obtain ⟨i, ca, sl, _, _, _, _, hca, _⟩ := cellOfName j nm hj
    refine hb_ ?_
    rw [hca]; rfl
  have hDs : s2.heap.get? s2.heap.objs.size = none := size_none _
  refine wpAny_newObj_type ⟨closureFor_eq freeCell, wpAny_newFunctionEnv K.noCell (by intro y hy; simp at hy) (fun h4 hns hsb => ?_) K.kind⟩ (by show 0 ≤ _; exact Nat.zero_le _)
  dsimp only at hns hsb ⊢
  refine hide fun b_ hb_ => ?_
  obtain ⟨D, eD⟩ : ∃ D, D = s2.heap.objs.size := ⟨_, rfl⟩
  obtain ⟨h3, eh3⟩ : ∃ h3, h3 = s2.heap.push (LObj #[] 0) := ⟨_, rfl⟩
  obtain ⟨C, eC⟩ : ∃ C, C = h3.objs.size := ⟨_, rfl⟩
  refine hb_ ?_
  rw [show s2.heap.push { cls := .type "list", data := .seq ([] : List Value).toArray } = h3 from eh3.symm] at hns hsb ⊢
  rw [← eC] at hns hsb ⊢
  rw [← eD]
  have hCs : h3.get? C = none := by rw [eC]; exact size_none _
  have k23 : KeepAll s2.heap h3 := by rw [eh3]; exact KeepAll.push _ _
  have k34 : KeepAll h3 h4 := fun b o e => hsb.extBut b o (fun q => by rw [q, hCs] at e; cases e) (Heap.get?_push_of_some _ e)
  have k14 : KeepAll s1.heap h4 := (k12.trans k23).trans k34
  have hC1 : s1.heap.get? C = none := by
    cases q : s1.heap.get? C with
    | none => rfl
    | some o => have := k23 _ _ (k12 _ _ q); rw [hCs] at this; cases this
  have hD1 : s1.heap.get? D = none := by
    cases q : s1.heap.get? D with
    | none => rfl
    | some o => have := k12 _ _ q; rw [eD, hDs] at this; cases this
  have hD3 : h3.get? D = some (LObj #[] 0) := by rw [eh3, eD]; exact Heap.get?_push_size _ rfl
  have hD4 : h4.get? D = some (LObj #[] 0) := k34 _ _ hD3
  have hI4 : ∃ o, h3.get? I = some o := let ⟨o, e⟩ := hI2; ⟨o, k23 _ _ e⟩
  have hIC : I ≠ C := fun q => by obtain ⟨o, e⟩ := hI4; rw [q, hCs] at e; cases e
  have hID : I ≠ D := fun q => by obtain ⟨o, e⟩ := hI2; rw [q, eD, hDs] at e; cases e
  obtain ⟨env', eenv⟩ : ∃ env', env' = compEnvC cs (closS c.env.cells cs.names []) C c.env := ⟨_, rfl⟩
  show codeAny G.M A (.compStart _ 0 (.ref I) (.ref D) (compEnvC cs (closS c.env.cells cs.names []) C c.env)) (cPost G.M A (EE G c o) use Q (.ref D) (compEnvC cs (closS c.env.cells cs.names []) C c.env)) _
  rw [← eenv]
  obtain ⟨c', ec'⟩ : ∃ c' : FC, c' = ⟨env', c.fenv, c.outer, C, c.τ, c.Ban stc.ρ vs, (fun b => b = C ∨ b = D), s1.heap, tn ++ cn, false, c.g, c.d, c.o⟩ := ⟨_, rfl⟩
  have hL' : env'.locals = C := by rw [eenv]; rfl
  have hsc' : env'.scope = relabelS cs sc := by rw [eenv]; show relabel cs c.env = _; rw [relabel_eq, hsc]
  have hko : ∀ nm, env'.kindOf nm = (relabelS cs sc).names.lookup nm := fun nm => by unfold Env.kindOf; rw [hsc']
  have hcells : env'.cells = closS c.env.cells cs.names [] := by rw [eenv]; rfl
  -- a cell of the comprehension is the def's
  have hcl : ∀ nm ca, env'.cells.lookup nm = some ca → c.env.cells.lookup nm = some ca := by
    intro nm ca h
    rw [hcells] at h
    rcases closS_mem (mem_of_lookup h) with h1 | ⟨h1, h2⟩
    · cases h1
    · obtain ⟨a, ha⟩ := Option.isSome_iff_exists.mp (freeCell nm h1)
      rw [ha] at h2 ⊢
      rw [h2]; rfl
  have hclh : ∀ nm ca, (nm, NameKind.free) ∈ cs.names → c.env.cells.lookup nm = some ca → env'.cells.lookup nm = some ca := by
    intro nm ca h1 h2
    have hm := closS_has (cells := c.env.cells) (acc := []) h1
    refine hide fun b_ hb_ => ?_
    obtain ⟨a, ha⟩ := Option.isSome_iff_exists.mp (lookup_isSome_of_mem (List.mem_map.mpr ⟨_, hm, rfl⟩))
    rw [← hcells] at ha
    have := hcl nm a ha
    rw [h2] at this
    cases this
    refine hb_ ?_
    exact ha
  have cok : c'.Ok G := by
    refine ⟨?_, ?_, ?_, ?_, ?_, ?_, ?_, ?_, ?_, ?_, ?_, ?_, ?_, ?_, ?_⟩
    · rw [ec']; show env'.scope.kind = _; rw [hsc']; exact K.kind
    · rw [ec']; show env'.globals = _; rw [eenv]; exact S.ok.globals
    · rw [ec']; show env'.builtins = _; rw [eenv]; exact S.ok.builtins
    · rw [ec']; exact hL'
    · rw [ec']; show env'.frame = _; rw [eenv]; exact S.ok.frame
    · rw [ec']; exact base_stays S.ok rc
    · rw [ec']; exact S.ok.τH
    · rw [ec']; obtain ⟨_, _, e⟩ := rc.tauAt; exact ⟨_, e⟩
    · rw [ec']; exact banIn S.ok rc
    · rw [ec']; rintro b (rfl | rfl); exact hC1; exact hD1
    · rw [ec']; exact .inl rfl
    · rw [ec']; exact S.ok.fr
    · rw [ec']; exact K.nodup
    · rw [ec']; exact fun n n' ca h1 h2 => S.ok.cinj n n' ca (hcl n ca h1) (hcl n' ca h2)
    · rw [ec']; intro h; cases h
  have S' : Surr G c' n A := ⟨cok, S.gok, S.room, S.hh, by rw [ec']; exact S.fr⟩
  have KF : CFrame G c c' s1 C D (c.Ban stc.ρ vs) := by
    rw [ec']
    exact ⟨rfl, rfl, rfl, rfl, rfl, rfl, rfl, rfl, fun _ => Iff.rfl, fun _ => Iff.rfl, hC1, hD1⟩
  refine hide fun b_ hb_ => ?_
  obtain ⟨st0, est0⟩ : ∃ st0 : St, st0 = ⟨List.replicate tn.length .unset ++ sls, stc.ts⟩ := ⟨_, rfl⟩
  have hslot : ∀ (j : Nat) (sl : Slot), st0.ρ[j]? = some sl → (j < tn.length ∧ sl = .unset) ∨ (tn.length ≤ j ∧ sls[j - tn.length]? = some sl ∧ ∃ nm, cn[j - tn.length]? = some nm) := by
    intro j sl h
    rw [est0] at h
    by_cases q : j < tn.length
    · rw [List.getElem?_append_left (by simpa using q), List.getElem?_replicate, if_pos q] at h
      exact .inl ⟨q, (Option.some.inj h).symm⟩
    · rw [List.getElem?_append_right (by simpa using q), List.length_replicate] at h
      refine .inr ⟨by omega, h, ?_⟩
      have hj := setLt'' h
      exact ⟨cn[j - tn.length]'(by rw [K.len]; omega), List.getElem?_eq_getElem _⟩
  have no0 : ∀ (j : Nat) (sl : Slot), st0.ρ[j]? = some sl → sl.owned = none := by
    intro j sl h
    rcases hslot j sl h with ⟨_, rfl⟩ | ⟨_, h1, nm, h2⟩
    · rfl
    · refine hide fun b_ hb_ => ?_
      obtain ⟨i, ca, sl2, _, e1, _, e3, _, _⟩ := cellOfName _ nm h2
      rw [h1] at e1; cases e1
      refine hb_ ?_
      rcases e3 with ⟨x, rfl⟩ | rfl <;> rfl
  obtain ⟨vs', evs⟩ : ∃ vs' : Nat → Value, vs' = fun j => vs ((caps[j - tn.length]?).getD 0) := ⟨_, rfl⟩
  obtain ⟨s4, es4⟩ : ∃ s4 : Shared, s4 = { s2 with heap := h4, toks := s2.toks + ([] : List (Str × Value)).length } := ⟨_, rfl⟩
  refine hb_ ?_
  have sr : SR G c' st0 vs' s4 := by
    refine ⟨?_, fun j nm sl h1 h2 => ?_, fun j sl h => ?_, fun i j si sj x y _ h1 _ h2 => (by rw [no0 i si h1] at h2; cases h2), ?_, ?_, ?_, ?_, fun b hb => ?_, ?_⟩
    · rw [est0, ec']; simp [lc, K.len]
    · rw [ec'] at h1 ⊢
      simp only at h1
      show VarAt s4.heap env' nm _
      rw [es4]
      rcases hslot j sl h2 with ⟨q, rfl⟩ | ⟨q, e1, nm2, e2⟩
      · rw [List.getElem?_append_left q] at h1
        unfold VarAt
        rw [hko, K.tgts nm (List.mem_of_getElem? h1), hL']
        exact ⟨_, hns, rfl⟩
      · rw [List.getElem?_append_right q] at h1
        refine hide fun b_ hb_ => ?_
        rw [h1] at e2; cases e2
        obtain ⟨i, ca, sl2, hi, e3, _, e5, hca, hcell⟩ := cellOfName _ nm h1
        rw [e1] at e3; cases e3
        obtain ⟨_, _, _, _, hk, hf⟩ := capIdx K h1
        refine hb_ ?_
        have hv' : vs' j = vs i := by rw [evs]; simp only [hi, Option.getD_some]
        unfold VarAt
        rw [hko, hk]
        refine ⟨ca, hclh nm ca hf hca, ?_⟩
        have hov : sl.ov (vs' j) = some (vs i) := by rw [hv']; rcases e5 with ⟨x, rfl⟩ | rfl <;> rfl
        rw [hov]
        exact hcell.keeps k14
    · rw [es4]
      rcases hslot j sl h with ⟨q, rfl⟩ | ⟨q, e1, nm, e2⟩
      · trivial
      · refine hide fun b_ hb_ => ?_
        obtain ⟨i, ca, sl2, hi, e3, e4, e5, _, _⟩ := cellOfName _ nm e2
        rw [e1] at e3; cases e3
        refine hb_ ?_
        have hv' : vs' j = vs i := by rw [evs]; simp only [hi, Option.getD_some]
        have z := rc.slot i sl e4
        rw [hv']
        rcases e5 with ⟨x, rfl⟩ | rfl
        · show Rd _ _ _ _ _
          refine Rd.mono (fun b o e nb => ⟨k14 b o e, fun q => ?_⟩) z
          rcases ban_noOwn no0 q with q | q | q
          · rw [ec'] at q; exact nb q
          · rw [ec'] at q; rcases q with rfl | rfl
            · rw [hC1] at e; cases e
            · rw [hD1] at e; cases e
          · rw [ec'] at q; exact nb (.inr (.inr (.inl q)))
        · show vs i = .ref c'.τ
          rw [ec']; exact z
    · rw [est0, ec', es4]; exact rc.tape.keep k14
    · rw [ec', es4]; exact k14.but _
    · rw [ec', es4]; exact funFrames_all k14 rc.frames
    · rw [ec', es4]; exact ⟨rest12.1.trans rc.rest.1, rest12.2.1.trans rc.rest.2.1, rest12.2.2.trans rc.rest.2.2⟩
    · rw [ec'] at hb; rw [es4]
      rcases hb with rfl | rfl
      · obtain ⟨o, _, _, ho, _⟩ := hns; exact ⟨_, ho⟩
      · exact ⟨_, hD4⟩
    · rw [ec', es4]; exact ⟨_, hns⟩
  rw [← est0] at eo
  rw [← es4]
  have hst4 : Sh 0 s4.heap := W.frame _ _ _ hst fun b _ o e => by rw [es4]; exact (k23.trans k34) b o e
  have loop : codeAny G.M A (.compLoop (.ListComp elt [⟨tgt, iter, ifs, 0⟩] cs pos) 0 (.ref I) (.ref D) env') (cPost G.M A (EE G c o) use Q (.ref D) env') s4 := by
    have z := compCore (c' := c') (D := D) (C := C) T ht he KF FC.Ban.tau (by rw [ec']; exact hsc') (by rw [ec']) S S' rc sr no0 eo ns hr W hst4 hI1 hIC hID fld hfp hP ⟨0, by rw [es4]; exact hD4⟩
      (iter := iter) (cscope := cs) (pos := pos) (R := cPost G.M A (EE G c o) use Q (.ref D) env') (fun acc stF s' e1 dn => hok acc stF s' D C e1 dn env' hL')
      (fun e s' q => by rw [ec'] at q; exact q)
    rw [ec'] at z
    exact z
  exact codeAny_compStart_list loop (W.self 0 _ _ _ hst4 loop)
end
end Mine
namespace Mine
open PySem PySem.W PySem.Calls PyProof.Rows

noncomputable def eComp (k : Nat) (Fi : EF) (caps : List Nat) (store : PyData → St → Option St) (Ft : BF) (Fe : EF) : EF := fun st => (Fi st).bind fun av st1 => match av.share st1 with
  | some (d, st2) => match itemsD d with
    | some xs => compD k caps store Ft Fe xs st2
    | none => .stuck
  | none => .stuck
noncomputable def eCompR (k : Nat) (Fi : EF) (caps : List Nat) (store : PyData → St → Option St) (Ft : BF) (Fe : EF) : EF := fun st => (Fi st).bind fun av st1 => match av.data st1 with
  | some (.int m) => if 0 ≤ m ∧ m ≤ 100000 then compD k caps store Ft Fe ((List.range m.toNat).map fun (k : Nat) => PyData.int k) st1 else .stuck
  | _ => .stuck

section
variable {G : GC} {c : FC} {st st0 st1 st2 st3 stc st' : St} {vs vs0 vs1 : Nat → Value} {s s0 s1 s2 s' : Shared} {v : Value} {av : AV} {x : PyData} {sc : Scope} {vars : List Str} {n : Nat} {A : Around} {M : Model} {E : Value → Shared → Prop}

noncomputable def CNext (G : GC) (c : FC) (A : Around) (sc : Scope) (cs : Scope) (tgt elt iter : Expr) (ifs : List Expr) (pos : Pos) (use : Option (Value → Sem Unit)) (Q : Value → Shared → Prop) {β : Type} (o : Out β) (it : Value) (s2 : Shared) : Prop :=
  wpAny G.M A (newList []) (fun acc s3 => closureFor cs c.env = pure (closS c.env.cells cs.names []) ∧
      wpAny G.M A (newFunctionEnv cs c.env.globals (closS c.env.cells cs.names []) [] c.env.qual none .none (some c.env)) (fun cenv s4 =>
        codeAny G.M A (.compStart (.ListComp elt [⟨tgt, iter, ifs, 0⟩] cs pos) 0 it acc { cenv with scope := relabel cs c.env }) (cPost G.M A (EE G c o) use Q acc { cenv with scope := relabel cs c.env }) s4) (EE G c o) s3) (EE G c o) s2

theorem compList {cs : Scope} {tn cn : List Str} {caps : List Nat} {tgt elt iter : Expr} {ifs : List Expr} {pos : Pos} {store : PyData → St → Option St} {Ft : BF} {Fe : EF} (K : CompOk sc vars cs tn cn caps)
    (T : Tgt G (relabelS cs sc) (tn ++ cn) n true tgt store) (ht : Tests G (relabelS cs sc) (tn ++ cn) n ifs Ft) (he : SE G (relabelS cs sc) (tn ++ cn) n elt Fe)
    (hsc : c.env.scope = sc) (hv : c.vars = vars) (S : Surr G c n A) {sls : List Slot} (r0 : SR G c st vs s1) (ec : capSlots caps st = some (sls, stc)) {d : PyData} {xs : List PyData} (rd : Rd G.w s1.heap (c.Ban st.ρ vs) v d) (hd : itemsD d = some xs)
    {β : Type} {o : Out β} {o1 : Out (List PyData)} (eo : cLoop store Ft Fe xs [] ⟨List.replicate tn.length .unset ++ sls, stc.ts⟩ = o1) (ns : o1 ≠ .stuck) (hr : o1 = .raise → o = .raise)
    {use : Option (Value → Sem Unit)} {Q : Value → Shared → Prop}
    (hok : ∀ acc stF s' D C, o1 = .ok acc stF → CDone G c s1 s' C D (c.Ban stc.ρ vs) acc stF.ts → ∀ cenv : Env, cenv.locals = C → cPost G.M A (EE G c o) use Q (.ref D) cenv (.ok .next) s') :
    wpAny G.M A (pyIter v) (CNext G c A sc cs tgt elt iter ifs pos use Q o) (EE G c o) s1 := by
  obtain ⟨rc, zc, _⟩ := capSlots_sound S.ok r0 ec
  have fin : ∀ {ax : Addr} {items : Array Value} {k : Nat}, v = .ref ax → (s1.heap.get? ax = some (LObj items k) ∨ s1.heap.get? ax = some (TObj items k)) → ¬ c.Ban st.ρ vs ax → RdAll G.w s1.heap (c.Ban st.ρ vs) items.toList xs →
      wpAny G.M A (pyIter v) (CNext G c A sc cs tgt elt iter ifs pos use Q o) (EE G c o) s1 := by
    rintro ax items k rfl he' nb rr
    have l := rr.length
    simp only [Array.length_toList] at l
    have hne : ax ≠ s1.heap.objs.size := by rcases he' with e | e <;> exact Nat.ne_of_lt (Heap.lt_size e)
    have hfp : ∀ b ∈ [s1.heap.objs.size, ax], b ≠ s1.heap.objs.size → b ≠ c.τ ∧ ∃ o, s1.heap.get? b = some o := by
      intro b hb q
      simp only [List.mem_cons, List.not_mem_nil, or_false] at hb
      rcases hb with rfl | rfl
      · exact absurd rfl q
      · exact ⟨ban_ne nb, by rcases he' with e | e <;> exact ⟨_, e⟩⟩
    have hP : ∀ i v, i < xs.length → items[i]? = some v → ∃ x, xs[i]? = some x ∧ Rd G.w s1.heap (c.Ban stc.ρ vs) v x := fun i v _ e => by
      obtain ⟨x, h1, h2⟩ := rr.getV (by rw [Array.getElem?_toList]; exact e)
      exact ⟨x, h1, h2.mono fun b o e nb => ⟨e, fun q => nb (zc.ban b q)⟩⟩
    rcases he' with e | e
    · refine wpAny_pyIter_list ⟨_, e, rfl, _, rfl⟩ ?_
      have W := Walks.list (prog := G.prog) (w := G.w) (A := A) S.hh s1.heap.objs.size ax hne items
      rw [l] at W
      exact compRun (s2 := { s1 with heap := s1.heap.push _ }) K T ht he hsc hv S r0 ec eo ns hr (KeepAll.push _ _) ⟨rfl, rfl, rfl⟩ W ⟨⟨_, Heap.get?_push_size _ rfl, rfl, rfl⟩, ⟨_, Heap.get?_push_of_some _ e, rfl, _, rfl⟩⟩ (size_none _) ⟨_, Heap.get?_push_size _ rfl⟩
        (fun i h q => let ⟨⟨o, a, b, d⟩, _⟩ := q; ⟨o, _, _, a, b, d, by decide⟩) hfp hP hok
    · refine wpAny_pyIter_tuple ⟨_, e, rfl, _, rfl⟩ ?_
      have W := Walks.tuple (prog := G.prog) (w := G.w) (A := A) S.hh s1.heap.objs.size ax hne items
      rw [l] at W
      exact compRun (s2 := { s1 with heap := s1.heap.push _ }) K T ht he hsc hv S r0 ec eo ns hr (KeepAll.push _ _) ⟨rfl, rfl, rfl⟩ W ⟨⟨_, Heap.get?_push_size _ rfl, rfl, rfl⟩, ⟨_, Heap.get?_push_of_some _ e, rfl, _, rfl⟩⟩ (size_none _) ⟨_, Heap.get?_push_size _ rfl⟩
        (fun i h q => let ⟨⟨o, a, b, d⟩, _⟩ := q; ⟨o, _, _, a, b, d, by decide⟩) hfp hP hok
  cases rd with
  | list e nb rr => simp only [itemsD, Option.some.injEq] at hd; subst hd; exact fin rfl (.inl e) nb rr
  | tuple e nb rr => simp only [itemsD, Option.some.injEq] at hd; subst hd; exact fin rfl (.inr e) nb rr
  | _ => simp [itemsD] at hd

theorem compRange {cs : Scope} {tn cn : List Str} {caps : List Nat} {tgt elt iter : Expr} {ifs : List Expr} {pos : Pos} {store : PyData → St → Option St} {Ft : BF} {Fe : EF} (K : CompOk sc vars cs tn cn caps)
    (T : Tgt G (relabelS cs sc) (tn ++ cn) n true tgt store) (ht : Tests G (relabelS cs sc) (tn ++ cn) n ifs Ft) (he : SE G (relabelS cs sc) (tn ++ cn) n elt Fe)
    (hsc : c.env.scope = sc) (hv : c.vars = vars) (S : Surr G c n A) {sls : List Slot} (r0 : SR G c st vs s1) (ec : capSlots caps st = some (sls, stc)) {m : Int} {u : Tok} (hm : 0 ≤ m ∧ m ≤ 100000)
    {β : Type} {o : Out β} {o1 : Out (List PyData)} (eo : cLoop store Ft Fe ((List.range m.toNat).map fun (k : Nat) => PyData.int k) [] ⟨List.replicate tn.length .unset ++ sls, stc.ts⟩ = o1) (ns : o1 ≠ .stuck) (hr : o1 = .raise → o = .raise)
    {use : Option (Value → Sem Unit)} {Q : Value → Shared → Prop}
    (hok : ∀ acc stF s' D C, o1 = .ok acc stF → CDone G c s1 s' C D (c.Ban stc.ρ vs) acc stF.ts → ∀ cenv : Env, cenv.locals = C → cPost G.M A (EE G c o) use Q (.ref D) cenv (.ok .next) s') :
    wpAny G.M A (call (.type "range") [.int m u]) (fun x s => wpAny G.M A (pyIter x) (CNext G c A sc cs tgt elt iter ifs pos use Q o) (EE G c o) s) (EE G c o) s1 := by
  refine call_range_1 ?_
  obtain ⟨s2, es2⟩ : ∃ s2 : Shared, s2 = { s1 with heap := s1.heap.push { cls := .type "range", data := .fields #[.int 0 s1.toks, .int m u, .int 1 (s1.toks + 1)] }, toks := s1.toks + 1 + 1 } := ⟨_, rfl⟩
  have kA : KeepAll s1.heap s2.heap := by subst es2; exact KeepAll.push _ _
  have hr' : IsRange s2.heap s1.heap.objs.size 0 m 1 s1.toks u (s1.toks + 1) := by subst es2; exact IsRange.new _ _ _ _ _ _ _
  have hrest : s2.gens = s1.gens ∧ s2.drawn = s1.drawn ∧ s2.os = s1.os := by subst es2; exact ⟨rfl, rfl, rfl⟩
  rw [← es2]
  refine wpAny_pyIter_range hr' (small_one (by decide) (by decide) (by omega) (by omega)) ?_
  have hsz : Builtin.Range.rangeSize 0 m 1 = (m.toNat : Int) := by rw [rangeSize_one]; split <;> omega
  rw [hsz]
  have W := Walks.range (prog := G.prog) (w := G.w) (A := A) S.hh s2.heap.objs.size 0 1 m.toNat
  have hxl : ((List.range m.toNat).map fun (k : Nat) => PyData.int k).length = m.toNat := by simp
  have hI1 : s1.heap.get? s2.heap.objs.size = none := by
    cases q : s1.heap.get? s2.heap.objs.size with
    | none => rfl
    | some o => have := kA _ _ q; rw [size_none] at this; cases this
  refine compRun (s2 := { s2 with heap := s2.heap.push _ }) K T ht he hsc hv S r0 ec eo ns hr (kA.trans (KeepAll.push _ _)) hrest (by rw [hxl]; exact W) (by simpa using Heap.get?_push_size s2.heap rfl) hI1 ⟨_, Heap.get?_push_size _ rfl⟩
    (fun i h q => ⟨_, _, _, q, rfl, rfl, by decide⟩) (fun b hb q => ?_) (fun i v hi hv => ?_) hok
  · simp only [List.mem_cons, List.not_mem_nil, or_false] at hb
    exact absurd hb q
  · obtain ⟨t, rfl⟩ := hv
    rw [hxl] at hi
    refine ⟨.int i, by simp [hi], ?_⟩
    have : (0 : Int) + (i : Int) * 1 = i := by omega
    rw [this]
    exact .int _ _

theorem compValue {acc : List PyData} {ts : List Int} {C D : Addr} {cenv : Env} (S : Surr G c n A) (q1 : SR G c st1 vs s1) (rc : SR G c stc vs s1) (k : KeepBut c.τ s.heap s1.heap) (z : Shares stc.ρ st.ρ) {o : Out AV} (eo : o = .ok (.dat (.list acc) true) ⟨stc.ρ, ts⟩)
    (d : CDone G c s1 s' C D (c.Ban stc.ρ vs) acc ts) (hC : cenv.locals = C) : cPost G.M A (EE G c o) none (QE G c st vs s o) (.ref D) cenv (.ok .next) s' := by
  refine hide fun b_ hb_ => ?_
  subst hC
  obtain ⟨m, hm⟩ := d.ns
  refine hb_ ?_
  refine ⟨m, hm, fun h' sb => ?_⟩
  subst eo
  have ne : ∀ b o, s1.heap.get? b = some o → b ≠ cenv.locals := fun b o e q => by rw [q, d.C1] at e; cases e
  have k2 : KeepBut c.τ s1.heap h' := fun b o nb e => (sb.2 b (ne b o e)).trans (d.keep b o nb e)
  refine hide fun b_ hb_ => ?_
  obtain ⟨tv, tn, te, ti⟩ := d.tape
  obtain ⟨tv1, tn1, te1, _⟩ := rc.tape
  have t2 : TapeAt G.I h' c.τ ts := ⟨tv, tn, (sb.2 _ (ne _ _ te1)).trans te, ti⟩
  obtain ⟨items, mm, hD, rr⟩ := d.obj
  refine hb_ ?_
  refine ⟨rc.step (s' := { s' with heap := h' }) S.ok k2 t2 ?_, k.trans k2, z, ?_, ?_⟩
  · exact ⟨d.rest.1.trans rc.rest.1.symm, d.rest.2.1.trans rc.rest.2.1.symm, d.rest.2.2.trans rc.rest.2.2.symm⟩
  · refine Rd.list ((sb.2 D (Ne.symm d.ne)).trans hD) (fun q => ?_) ?_
    · refine hide fun b_ hb_ => ?_
      obtain ⟨o, e⟩ := banIn S.ok rc D q
      rw [d.D1] at e; cases e
    · refine rr.mono fun b o e nb => ⟨(sb.2 b fun q => nb (.inr (.inl q))).trans e, fun q => nb (.inl q)⟩
  · exact ⟨D, rfl, fresh_back k rc d.D1⟩

theorem SE_comp {cs : Scope} {tn cn : List Str} {caps : List Nat} {tgt elt iter : Expr} {ifs : List Expr} {pos : Pos} {store : PyData → St → Option St} {Fi : EF} {Ft : BF} {Fe : EF} (hi : SE G sc vars n iter Fi) (K : CompOk sc vars cs tn cn caps)
    (T : Tgt G (relabelS cs sc) (tn ++ cn) n true tgt store) (ht : Tests G (relabelS cs sc) (tn ++ cn) n ifs Ft) (he : SE G (relabelS cs sc) (tn ++ cn) n elt Fe) (hs : ∀ env x, foldedSetIterable iter env x = pure x) :
    SE G sc vars n (.ListComp elt [⟨tgt, iter, ifs, 0⟩] cs pos) (eComp tn.length Fi caps store Ft Fe) := by
  intro c A st vs s hsc hv S r ns
  obtain ⟨o, eo⟩ : ∃ o, eComp tn.length Fi caps store Ft Fe st = o := ⟨_, rfl⟩
  rw [eo] at ns ⊢
  rw [eval_ListComp]
  refine comp_free (use := none) rfl (fun x => hs c.env x) K.kind K.names (cl := closS c.env.cells cs.names []) ?_
  show wpAny _ _ (eval iter c.env) _ _ _
  refine hi.use hsc hv S r eo ns fun av st1 v1 s1 ho q1 q2 q3 q4 q5 => ?_
  cases esh : av.share st1 with
  | none => rw [esh] at ho; exact absurd ho.symm ns
  | some p =>
    refine hide fun b_ hb_ => ?_
    obtain ⟨d, st2⟩ := p
    rw [esh] at ho
    simp only at ho
    obtain ⟨r2, z2, rd2, _⟩ := share_sound S.ok q1 q4 esh
    refine hb_ ?_
    cases ed : itemsD d with
    | none => rw [ed] at ho; exact absurd ho.symm ns
    | some xs =>
      rw [ed] at ho
      simp only [compD] at ho
      cases ec : capSlots caps st2 with
      | none => rw [ec] at ho; exact absurd ho.symm ns
      | some p =>
        refine hide fun b_ hb_ => ?_
        obtain ⟨sls, stc⟩ := p
        rw [ec] at ho
        simp only at ho
        obtain ⟨rc, zc, _⟩ := capSlots_sound S.ok r2 ec
        obtain ⟨o1, eo1⟩ : ∃ o1, cLoop store Ft Fe xs [] ⟨List.replicate tn.length .unset ++ sls, stc.ts⟩ = o1 := ⟨_, rfl⟩
        refine hb_ ?_
        rw [eo1] at ho
        refine compList K T ht he hsc hv S r2 ec rd2 ed eo1 (fun q => by rw [q] at ho; exact ns ho.symm) (fun q => by rw [q] at ho; exact ho.symm) fun acc stF s' D C e1 dn cenv hC => ?_
        rw [e1] at ho
        exact compValue S q1 rc q2 ((zc.trans z2).trans q3) ho.symm dn hC

theorem SE_compR {cs : Scope} {tn cn : List Str} {caps : List Nat} {tgt elt e0 : Expr} {ifs : List Expr} {pos p1 p2 : Pos} {store : PyData → St → Option St} {Fi : EF} {Ft : BF} {Fe : EF} (h0 : SE G sc vars n e0 Fi) (hse : ∀ env rest, starEach (e0 :: rest) env = (false, eval e0 env) :: starEach rest env) (K : CompOk sc vars cs tn cn caps)
    (T : Tgt G (relabelS cs sc) (tn ++ cn) n true tgt store) (ht : Tests G (relabelS cs sc) (tn ++ cn) n ifs Ft) (he : SE G (relabelS cs sc) (tn ++ cn) n elt Fe) (hg : G.mg "range" = none) (hk : sc.names.lookup ("range" : Str) = some .globalImplicit)
    (hs : ∀ env x, foldedSetIterable (.Call (.Name "range" p1) [e0] [] p2) env x = pure x) :
    SE G sc vars n (.ListComp elt [⟨tgt, .Call (.Name "range" p1) [e0] [] p2, ifs, 0⟩] cs pos) (eCompR tn.length Fi caps store Ft Fe) := by
  intro c A st vs s hsc hv S r ns
  obtain ⟨o, eo⟩ : ∃ o, eCompR tn.length Fi caps store Ft Fe st = o := ⟨_, rfl⟩
  rw [eo] at ns ⊢
  rw [eval_ListComp]
  refine comp_free (use := none) rfl (fun x => hs c.env x) K.kind K.names (cl := closS c.env.cells cs.names []) ?_
  show wpAny _ _ (eval (.Call (.Name "range" p1) [e0] [] p2) c.env) _ _ _
  refine Call_Name (trees := backTo p2 (starEach [e0] c.env)) rfl (load_builtin hsc S r hg (b := .type "range") rfl (by decide) hk (by decide) ?_)
  have es : starEach [e0] c.env = [(false, eval e0 c.env)] := by rw [hse]; rfl
  refine cw_type _ _ _ _ _ _ (by rw [es]; rfl) ?_
  rw [es]
  refine evalArgs_plain (spliced_cons ?_)
  refine h0.use hsc hv S r eo ns fun av st1 v1 s1 ho q1 q2 q3 q4 q5 => spliced_nil ?_
  cases ea : av.data st1 with
  | none => rw [ea] at ho; exact absurd ho.symm ns
  | some xa =>
    have rv := q4.readV q1 ea
    rw [ea] at ho
    cases xa <;> first | exact absurd ho.symm ns | skip
    rename_i m
    refine hide fun b_ hb_ => ?_
    obtain ⟨u, rfl⟩ := rv.int_inv
    refine hb_ ?_
    simp only at ho
    split at ho
    case isFalse => exact absurd ho.symm ns
    rename_i hm
    simp only [compD] at ho
    cases ec : capSlots caps st1 with
    | none => rw [ec] at ho; exact absurd ho.symm ns
    | some p =>
      refine hide fun b_ hb_ => ?_
      obtain ⟨sls, stc⟩ := p
      rw [ec] at ho
      simp only at ho
      obtain ⟨rc, zc, _⟩ := capSlots_sound S.ok q1 ec
      obtain ⟨o1, eo1⟩ : ∃ o1, cLoop store Ft Fe ((List.range m.toNat).map fun (k : Nat) => PyData.int k) [] ⟨List.replicate tn.length .unset ++ sls, stc.ts⟩ = o1 := ⟨_, rfl⟩
      refine hb_ ?_
      rw [eo1] at ho
      refine compRange K T ht he hsc hv S q1 ec hm eo1 (fun q => by rw [q] at ho; exact ns ho.symm) (fun q => by rw [q] at ho; exact ho.symm) fun acc stF s' D C e1 dn cenv hC => ?_
      rw [e1] at ho
      exact compValue S q1 rc q2 (zc.trans q3) ho.symm dn hC
end
end Mine
namespace Mine
open PySem PySem.W PySem.Calls PyProof.Rows

section
variable {G : GC} {c : FC} {st st0 st1 st2 st3 stc st' : St} {vs vs0 vs1 : Nat → Value} {s s0 s1 s2 s' : Shared} {v : Value} {av : AV} {x : PyData} {sc : Scope} {vars : List Str} {n : Nat} {A : Around} {M : Model} {E : Value → Shared → Prop}

theorem compStore {acc : List PyData} {ts : List Int} {C D : Addr} {cenv : Env} {nm : Str} {p : Pos} {i : Nat} (S : Surr G c n A) (hown : c.ownc = true) (q1 : SR G c st1 vs s1) (rc : SR G c stc vs s1) (k : KeepBut c.τ s.heap s1.heap) (z : Shares stc.ρ st.ρ)
    (hi : c.vars[i]? = some nm) (hl : c.env.kindOf nm = some .local) {o : Out SRes} (r0 : SR G c st vs s) (ep : putSlot i (.own (.list acc)) ⟨stc.ρ, ts⟩ = some st3) (eo : o = .ok .next st3)
    (d : CDone G c s1 s' C D (c.Ban stc.ρ vs) acc ts) (hC : cenv.locals = C) : cPost G.M A (EE G c o) (some (assign (.Name nm p) c.env)) (fun _ s2 => QS G c st vs s o .next s2) (.ref D) cenv (.ok .next) s' := by
  refine hide fun b_ hb_ => ?_
  subst hC
  obtain ⟨mC, hmC⟩ := id d.ns
  obtain ⟨oC, esC, epC, hoC, hdC, hrC⟩ := id hmC
  obtain ⟨C, eC⟩ : ∃ C, C = cenv.locals := ⟨_, rfl⟩
  refine hb_ ?_
  rw [← eC] at d hmC hoC
  show wpAny G.M A (assign (.Name nm p) c.env (.ref D)) (fun _ s'' => ∃ m, s''.heap.Ns cenv.locals m ∧ ∀ h', Heap.SameBut cenv.locals s''.heap h' → QS G c st vs s o .next { s'' with heap := h' }) (EE G c o) s'
  rw [← eC]
  have neC : ∀ b o, s1.heap.get? b = some o → b ≠ C := fun b o e q => by rw [q, d.C1] at e; cases e
  have neD : ∀ b o, s1.heap.get? b = some o → b ≠ D := fun b o e q => by rw [q, d.D1] at e; cases e
  have hinC : c.hin.get? C = none := hin_none rc d.C1
  have hinD : c.hin.get? D = none := hin_none rc d.D1
  have nWC : ¬ c.W C := fun q => by obtain ⟨o, e⟩ := rc.wIn C q; rw [d.C1] at e; cases e
  have nWD : ¬ c.W D := fun q => by obtain ⟨o, e⟩ := rc.wIn D q; rw [d.D1] at e; cases e
  refine hide fun b_ hb_ => ?_
  obtain ⟨items, mm, hD, rr⟩ := d.obj
  -- the frame with the comprehension's variables as places of its own
  obtain ⟨c2, ec2⟩ : ∃ c2 : FC, c2 = { c with W := fun b => c.W b ∨ b = C } := ⟨_, rfl⟩
  have cok2 : c2.Ok G := by
    rw [ec2]
    exact ⟨S.ok.kind, S.ok.globals, S.ok.builtins, S.ok.locals, S.ok.frame, S.ok.base, S.ok.τH, S.ok.τin, S.ok.Bin, fun b hb => hb.elim (S.ok.Wnew b) fun q => by rw [q]; exact hinC, .inl S.ok.WL, S.ok.fr, S.ok.nodup, S.ok.cinj, fun h n ca e => .inl (S.ok.Wcell h n ca e)⟩
  have ban2 : ∀ {ρ : List Slot} {ws : Nat → Value} b, c2.Ban ρ ws b ↔ (c.Ban ρ ws b ∨ b = C) := by
    intro ρ ws b
    rw [ec2]
    constructor
    · rintro (h | (h | h) | h | h)
      · exact .inl (.inl h)
      · exact .inl (.inr (.inl h))
      · exact .inr h
      · exact .inl (.inr (.inr (.inl h)))
      · exact .inl (.inr (.inr (.inr h)))
    · rintro ((h | h | h | h) | h)
      · exact .inl h
      · exact .inr (.inl (.inl h))
      · exact .inr (.inr (.inl h))
      · exact .inr (.inr (.inr h))
      · exact .inr (.inl (.inr h))
  have km : ∀ b o, s1.heap.get? b = some o → ¬ c.Ban stc.ρ vs b → s'.heap.get? b = some o ∧ ¬ (c.Ban stc.ρ vs b ∨ b = C ∨ b = D) := fun b o e nb => ⟨d.keep b o (ban_ne nb) e, fun q => q.elim nb fun q => q.elim (neC b o e) (neD b o e)⟩
  have slotNew : ∀ (j : Nat) (sl : Slot), stc.ρ[j]? = some sl → SlotR G.w s'.heap (fun b => c.Ban stc.ρ vs b ∨ b = C ∨ b = D) c2 sl (vs j) ∧ ∀ x, sl.owned = some x → vs j ≠ .ref D := by
    intro j sl e
    have zz := rc.slot j sl e
    have top : ∀ {a y}, RdTop G.w s1.heap (c.Ban stc.ρ vs) a y → ∃ o, s1.heap.get? a = some o := fun {a y} t => by
      cases t with
      | list e _ => exact ⟨_, e⟩
      | dict e _ _ _ => exact ⟨_, e⟩
    have own : ∀ {a y}, vs j = .ref a → RdTop G.w s1.heap (c.Ban stc.ρ vs) a y → c.hin.get? a = none → ¬ c.W a → (∃ a, vs j = .ref a ∧ RdTop G.w s'.heap (fun b => c.Ban stc.ρ vs b ∨ b = C ∨ b = D) a y ∧ c2.hin.get? a = none ∧ ¬ c2.W a) ∧ vs j ≠ .ref D := fun {a y} ea t f1 f2 => by
      obtain ⟨oa, ha⟩ := top t
      refine ⟨⟨a, ea, t.mono km fun o q => d.keep a o (SR.own_ne S.ok f1) q, by rw [ec2]; exact f1, by rw [ec2]; rintro (q | q); exact f2 q; exact neC a oa ha q⟩, fun q => ?_⟩
      rw [ea] at q; cases q
      exact neD _ _ ha rfl
    unfold SlotR at zz ⊢
    cases sl with
    | unset => exact ⟨trivial, fun x hx => by simp [Slot.owned] at hx⟩
    | tape => exact ⟨by rw [ec2]; exact zz, fun x hx => by simp [Slot.owned] at hx⟩
    | sh y => exact ⟨zz.mono km, fun x hx => by simp [Slot.owned] at hx⟩
    | own y =>
      refine hide fun b_ hb_ => ?_
      obtain ⟨a, ea, t, f1, f2⟩ := zz
      obtain ⟨w1, w2⟩ := own ea t f1 f2
      refine hb_ ?_
      exact ⟨w1, fun x _ => w2⟩
    | lent y =>
      refine hide fun b_ hb_ => ?_
      obtain ⟨a, ea, t, f1, f2⟩ := zz
      obtain ⟨w1, w2⟩ := own ea t f1 f2
      refine hb_ ?_
      exact ⟨w1, fun x _ => w2⟩
  obtain ⟨tv, tn, te, ti⟩ := id d.tape
  have sr2 : SR G c2 ⟨stc.ρ, ts⟩ vs s' := by
    refine ⟨by rw [ec2]; exact rc.len, fun i n sl h1 h2 => ?_, fun j sl h => (slotNew j sl h).1.mono fun b q => ((ban2 b).mp q).imp id .inl, rc.uniq, by rw [ec2]; exact d.tape, fun b o nb e => ?_, ?_, by rw [ec2]; exact d.rest, fun b hb => ?_, ?_⟩
    · rw [ec2] at h1 ⊢
      have va := rc.var i n sl h1 h2
      refine hide fun b_ hb_ => ?_
      obtain ⟨tv1, tn1, te1, _⟩ := rc.tape
      refine hb_ ?_
      exact va.but d.keep te1
    · rw [ec2] at nb e
      exact d.keep b o nb (rc.keep b o nb e)
    · rw [ec2]; exact funFrames_but d.keep te rc.frames
    · rw [ec2] at hb
      rcases hb with hb | hb
      · obtain ⟨o, e⟩ := rc.wIn b hb
        exact ⟨o, d.keep b o (SR.own_ne S.ok (S.ok.Wnew b hb)) e⟩
      · rw [hb]; exact ⟨_, hoC⟩
    · rw [ec2]
      refine hide fun b_ hb_ => ?_
      obtain ⟨m, o, es, ep, ho, hr⟩ := rc.nsL
      refine hb_ ?_
      exact ⟨m, o, es, ep, d.keep _ _ (SR.own_ne S.ok (S.ok.Wnew _ S.ok.WL)) ho, hr⟩
  have nbD : ¬ c2.Ban stc.ρ vs D := fun q => by
    rcases (ban2 D).mp q with q | q
    · refine hide fun b_ hb_ => ?_
      obtain ⟨o, e⟩ := banIn S.ok rc D q
      rw [d.D1] at e; cases e
    · exact d.ne q.symm
  have rdD : Rd G.w s'.heap (fun b => c.Ban stc.ρ vs b ∨ b = C) (.ref D) (.list acc) := .list hD (fun q => nbD ((ban2 D).mpr q)) (rr.mono fun b o e nb => ⟨e, fun q => nb (q.imp id .inl)⟩)
  have hput : ∃ old, stc.ρ[i]? = some old ∧ st3 = ⟨stc.ρ.set i (.own (.list acc)), ts⟩ := by
    unfold putSlot at ep
    cases e : stc.ρ[i]? with
    | none => rw [e] at ep; cases ep
    | some old =>
      rw [e] at ep
      simp only at ep
      split at ep
      · exact ⟨old, rfl, (Option.some.inj ep).symm⟩
      · cases ep
  obtain ⟨old, ho, e3⟩ := hput
  refine hb_ ?_
  have banS : ∀ b, c2.Ban (stc.ρ.set i (.own (.list acc))) (upd vs i (.ref D)) b → c.Ban stc.ρ vs b ∨ b = C ∨ b = D := fun b q => by
    rcases ban_set_own q with q | q
    · exact ((ban2 b).mp q).imp id .inl
    · exact .inr (.inr q)
  refine wpAny_assign_Name ?_
  have envE : c.env = c2.env := by rw [ec2]
  rw [envE]
  refine SR.store (sl' := .own (.list acc)) cok2 (.inl (by rw [ec2]; exact hown)) sr2 (by rw [ec2]; exact hi) (by simp) (fun j sl e => ?_) (fun a b sa sb xa xb hab ha hb h1 h2 => ?_) fun s2 r3 kw => ?_
  · by_cases q : j = i
    · subst q
      cases set_self e
      rw [upd_same]
      refine ⟨D, rfl, (rdD.topOff (.inl ⟨_, rfl⟩)).mono (fun b o e nb => ⟨e, fun q => nb ?_⟩) fun _ e => e, by rw [ec2]; exact hinD, by rw [ec2]; rintro (q | q); exact nWD q; exact d.ne q.symm⟩
      rcases banS b q with q | q | q
      · exact .inl (.inl q)
      · exact .inl (.inr q)
      · exact .inr q
    · rw [upd_ne _ _ q]
      exact (slotNew j sl (set_other e q)).1.mono banS
  · by_cases ea : a = i
    · subst ea
      have nb : b ≠ a := Ne.symm hab
      rw [upd_same, upd_ne _ _ nb]
      exact fun e => (slotNew b sb (set_other hb nb)).2 _ h2 e.symm
    · by_cases eb : b = i
      · subst eb
        rw [upd_same, upd_ne _ _ ea]
        exact (slotNew a sa (set_other ha ea)).2 _ h1
      · rw [upd_ne _ _ ea, upd_ne _ _ eb]
        exact rc.uniq a b sa sb xa xb hab (set_other ha ea) (set_other hb eb) h1 h2
  · have CL : C ≠ c.L := by
      refine hide fun b_ hb_ => ?_
      obtain ⟨m, o, _, _, ho, _⟩ := rc.nsL
      refine hb_ ?_
      exact Ne.symm (neC _ _ ho)
    have kC : s2.heap.get? C = some oC := kw C oC (.inr ⟨by rw [ec2]; exact hl, by rw [ec2]; exact CL⟩) hoC
    refine ⟨mC, ⟨oC, esC, epC, kC, hdC, hrC⟩, fun h' sb => ?_⟩
    subst eo
    rw [e3]
    have ban3 : ∀ b, c.Ban (stc.ρ.set i (.own (.list acc))) (upd vs i (.ref D)) b → c2.Ban (stc.ρ.set i (.own (.list acc))) (upd vs i (.ref D)) b := fun b q => (ban2 b).mpr (.inl q)
    have km2 : ∀ b o, s2.heap.get? b = some o → ¬ c2.Ban (stc.ρ.set i (.own (.list acc))) (upd vs i (.ref D)) b → h'.get? b = some o ∧ ¬ c.Ban (stc.ρ.set i (.own (.list acc))) (upd vs i (.ref D)) b :=
      fun b o e nb => ⟨(sb.2 b fun q => nb ((ban2 b).mpr (.inr q))).trans e, fun q => nb (ban3 b q)⟩
    -- old places reach the end
    have kend : ∀ b o, s1.heap.get? b = some o → b ≠ c.τ → ¬ c.W b → h'.get? b = some o := fun b o e nb nw => (sb.2 b (neC b o e)).trans (kw b o (.inl (by rw [ec2]; rintro (q | q); exact nw q; exact neC b o e q)) (d.keep b o nb e))
    refine ⟨rfl, upd vs i (.ref D), ?_, ?_⟩
    · refine ⟨by have := r3.len; rw [ec2] at this; exact this, fun j n sl h1 h2 => ?_, fun j sl h => ?_, r3.uniq, ?_, fun b o nb e => ?_, ?_, by have := r3.rest; rw [ec2] at this; exact this, fun b hb => ?_, ?_⟩
      · have va := r3.var j n sl (by rw [ec2]; exact h1) h2
        rw [← envE] at va
        unfold VarAt at va ⊢
        split at va
        · refine hide fun b_ hb_ => ?_
          obtain ⟨m, ⟨o, es, ep, ho, rest⟩, e⟩ := va
          refine hb_ ?_
          refine ⟨m, ⟨o, es, ep, (sb.2 _ ?_).trans ho, rest⟩, e⟩
          rw [S.ok.locals]; exact Ne.symm CL
        · refine hide fun b_ hb_ => ?_
          obtain ⟨ca, e, o, ho, hd⟩ := va
          refine hb_ ?_
          refine ⟨ca, e, o, (sb.2 ca ?_).trans ho, hd⟩
          exact get_ne ho kC (by rw [hd, hdC]; intro z; cases z)
        · exact va
      · have zz := r3.slot j sl h
        unfold SlotR at zz ⊢
        cases sl with
        | unset => trivial
        | sh y => exact Rd.mono km2 zz
        | tape => rw [ec2] at zz; exact zz
        | own y =>
          refine hide fun b_ hb_ => ?_
          obtain ⟨a, e, t, f1, f2⟩ := zz
          refine hb_ ?_
          rw [ec2] at f1 f2
          exact ⟨a, e, t.mono km2 fun o q => (sb.2 a fun q => f2 (.inr q)).trans q, f1, fun q => f2 (.inl q)⟩
        | lent y =>
          refine hide fun b_ hb_ => ?_
          obtain ⟨a, e, t, f1, f2⟩ := zz
          refine hb_ ?_
          rw [ec2] at f1 f2
          exact ⟨a, e, t.mono km2 fun o q => (sb.2 a fun q => f2 (.inr q)).trans q, f1, fun q => f2 (.inl q)⟩
      · refine hide fun b_ hb_ => ?_
        obtain ⟨tv2, tn2, te2, ti2⟩ := r3.tape
        rw [ec2] at te2
        obtain ⟨tv1, tn1, te1, _⟩ := rc.tape
        refine hb_ ?_
        exact ⟨tv2, tn2, (sb.2 _ (neC _ _ te1)).trans te2, ti2⟩
      · have := r3.keep b o (by rw [ec2]; exact nb) (by rw [ec2]; exact e)
        exact (sb.2 b fun q => by rw [q, hinC] at e; cases e).trans this
      · have f3 := r3.frames
        rw [ec2] at f3
        exact funFrames_sameBut d.C1 sb rc.frames f3
      · obtain ⟨o, e⟩ := r3.wIn b (by rw [ec2]; exact .inl hb)
        exact ⟨o, (sb.2 b fun q => nWC (q ▸ hb)).trans e⟩
      · refine hide fun b_ hb_ => ?_
        obtain ⟨m, o, es, ep, ho, rest⟩ := r3.nsL
        refine hb_ ?_
        rw [ec2] at ho
        exact ⟨m, o, es, ep, (sb.2 _ (Ne.symm CL)).trans ho, rest⟩
    · have up1 : ∀ b o, s.heap.get? b = some o → ∃ o', s1.heap.get? b = some o' := get_back S.ok k rc
      refine ⟨fun b o e nb => ?_, fun b o e hb => ?_, fun b o e hb => ?_, fun b o e => ?_⟩
      · exact kend b o (k b o (fun q => nb (.inr (.inr (.inl q)))) e) (fun q => nb (.inr (.inr (.inl q)))) fun q => nb (.inr (.inl q))
      · rcases banM_set_own hb with q | q
        · exact z.banM q
        · obtain ⟨o', e'⟩ := up1 b o e
          exact absurd q (neD b o' e')
      · rcases ban_set_own hb with q | q
        · exact z.ban b q
        · obtain ⟨o', e'⟩ := up1 b o e
          exact absurd q (neD b o' e')
      · obtain ⟨o', e'⟩ := up1 b o e
        by_cases qτ : b = c.τ
        · refine hide fun b_ hb_ => ?_
          obtain ⟨tv2, tn2, te2, ti2⟩ := r3.tape
          refine hb_ ?_
          rw [ec2] at te2
          exact ⟨_, (sb.2 b (neC b o' e')).trans (by rw [qτ]; exact te2)⟩
        · by_cases qW : c.W b
          · obtain ⟨o2, e2⟩ := r3.wIn b (by rw [ec2]; exact .inl qW)
            exact ⟨o2, (sb.2 b (neC b o' e')).trans e2⟩
          · exact ⟨o', kend b o' e' qτ qW⟩

noncomputable def sAssignC (i k : Nat) (Fi : EF) (caps : List Nat) (store : PyData → St → Option St) (Ft : BF) (Fe : EF) : SF := fun st => (eComp k Fi caps store Ft Fe st).bind fun av st1 => match av with
  | .dat (.list acc) _ => match putSlot i (.own (.list acc)) st1 with
    | some st3 => .ok .next st3
    | none => .stuck
  | _ => .stuck
noncomputable def sAssignCR (i k : Nat) (Fi : EF) (caps : List Nat) (store : PyData → St → Option St) (Ft : BF) (Fe : EF) : SF := fun st => (eCompR k Fi caps store Ft Fe st).bind fun av st1 => match av with
  | .dat (.list acc) _ => match putSlot i (.own (.list acc)) st1 with
    | some st3 => .ok .next st3
    | none => .stuck
  | _ => .stuck

theorem SS_assignC {cs : Scope} {tn cn : List Str} {caps : List Nat} {tgt elt iter : Expr} {ifs : List Expr} {pos p p2 : Pos} {nm : Str} {store : PyData → St → Option St} {Fi : EF} {Ft : BF} {Fe : EF} (i : Nat) (hn : vars[i]? = some nm) (hl : sc.names.lookup nm = some .local)
    (hi : SE G sc vars n iter Fi) (K : CompOk sc vars cs tn cn caps)
    (T : Tgt G (relabelS cs sc) (tn ++ cn) n true tgt store) (ht : Tests G (relabelS cs sc) (tn ++ cn) n ifs Ft) (he : SE G (relabelS cs sc) (tn ++ cn) n elt Fe) (hs : ∀ env x, foldedSetIterable iter env x = pure x)
    (hsw : ∀ env : Env, env.scope = sc → swapsWith (.ListComp elt [⟨tgt, iter, ifs, 0⟩] cs pos) (some (.Name nm p)) p2.line env = pure true) :
    SS G sc vars n (.Assign [.Name nm p] (.ListComp elt [⟨tgt, iter, ifs, 0⟩] cs pos) p2) (sAssignC i tn.length Fi caps store Ft Fe) := by
  intro c A st vs s hsc hv hown S r ns
  obtain ⟨o, eo⟩ : ∃ o, sAssignC i tn.length Fi caps store Ft Fe st = o := ⟨_, rfl⟩
  rw [eo] at ns ⊢
  rw [exec_Assign_Name_used _ _ _ _ (hsw _ hsc)]
  refine wpAny_bind (wpAny_standAt (wpAny_bind ?_))
  show wpAny _ A (do let _ ← comprehension (.ListComp elt [⟨tgt, iter, ifs, 0⟩] cs pos) cs c.env _ (newList []) false (eval iter c.env) (some (assign (.Name nm p) c.env))) _ _ s
  refine wpAny_bind (wpAny_mono (comp_free (use := some (assign (.Name nm p) c.env)) (Q := fun _ s' => QS G c st vs s o .next s') (cl := closS c.env.cells cs.names []) rfl (fun x => hs c.env x) K.kind K.names ?_) (fun _ s' hq => wpAny_pure (wpAny_pure hq)) fun _ _ e => e)
  have eo' : (Fi st).bind (fun av st1 => (match av.share st1 with
      | some (d, st2) => match itemsD d with
        | some xs => compD tn.length caps store Ft Fe xs st2
        | none => .stuck
      | none => .stuck).bind fun av st1 => match av with
        | .dat (.list acc) _ => match putSlot i (.own (.list acc)) st1 with
          | some st3 => Out.ok SRes.next st3
          | none => .stuck
        | _ => .stuck) = o := by
    rw [← eo]
    unfold sAssignC eComp
    cases Fi st <;> rfl
  refine hi.use hsc hv S r eo' ns fun av st1 v1 s1 ho q1 q2 q3 q4 q5 => ?_
  cases esh : av.share st1 with
  | none => rw [esh] at ho; exact absurd ho.symm ns
  | some pr =>
    refine hide fun b_ hb_ => ?_
    obtain ⟨d, st2⟩ := pr
    rw [esh] at ho
    simp only at ho
    obtain ⟨r2, z2, rd2, _⟩ := share_sound S.ok q1 q4 esh
    refine hb_ ?_
    cases ed : itemsD d with
    | none => rw [ed] at ho; exact absurd ho.symm ns
    | some xs =>
      rw [ed] at ho
      simp only [compD] at ho
      cases ec : capSlots caps st2 with
      | none => rw [ec] at ho; exact absurd ho.symm ns
      | some pr =>
        refine hide fun b_ hb_ => ?_
        obtain ⟨sls, stc⟩ := pr
        rw [ec] at ho
        simp only at ho
        obtain ⟨rc, zc, _⟩ := capSlots_sound S.ok r2 ec
        obtain ⟨o1, eo1⟩ : ∃ o1, cLoop store Ft Fe xs [] ⟨List.replicate tn.length .unset ++ sls, stc.ts⟩ = o1 := ⟨_, rfl⟩
        refine hb_ ?_
        rw [eo1] at ho
        refine compList K T ht he hsc hv S r2 ec rd2 ed eo1 (fun q => by rw [q] at ho; exact ns ho.symm) (fun q => by rw [q] at ho; exact ho.symm) fun acc stF s' D C e1 dn cenv hC => ?_
        rw [e1] at ho
        simp only [Out.bind] at ho
        cases ep : putSlot i (.own (.list acc)) ⟨stc.ρ, stF.ts⟩ with
        | none => rw [ep] at ho; exact absurd ho.symm ns
        | some st3 =>
          rw [ep] at ho
          exact compStore S hown q1 rc q2 ((zc.trans z2).trans q3) (by rw [hv]; exact hn) (by unfold Env.kindOf; rw [hsc]; exact hl) r ep ho.symm dn hC

theorem SS_assignCR {cs : Scope} {tn cn : List Str} {caps : List Nat} {tgt elt e0 : Expr} {ifs : List Expr} {pos p p2 q1 q2 : Pos} {nm : Str} {store : PyData → St → Option St} {Fi : EF} {Ft : BF} {Fe : EF} (i : Nat) (hn : vars[i]? = some nm) (hl : sc.names.lookup nm = some .local)
    (h0 : SE G sc vars n e0 Fi) (hse : ∀ env rest, starEach (e0 :: rest) env = (false, eval e0 env) :: starEach rest env) (K : CompOk sc vars cs tn cn caps)
    (T : Tgt G (relabelS cs sc) (tn ++ cn) n true tgt store) (ht : Tests G (relabelS cs sc) (tn ++ cn) n ifs Ft) (he : SE G (relabelS cs sc) (tn ++ cn) n elt Fe) (hg : G.mg "range" = none) (hk : sc.names.lookup ("range" : Str) = some .globalImplicit)
    (hs : ∀ env x, foldedSetIterable (.Call (.Name "range" q1) [e0] [] q2) env x = pure x)
    (hsw : ∀ env : Env, env.scope = sc → swapsWith (.ListComp elt [⟨tgt, .Call (.Name "range" q1) [e0] [] q2, ifs, 0⟩] cs pos) (some (.Name nm p)) p2.line env = pure true) :
    SS G sc vars n (.Assign [.Name nm p] (.ListComp elt [⟨tgt, .Call (.Name "range" q1) [e0] [] q2, ifs, 0⟩] cs pos) p2) (sAssignCR i tn.length Fi caps store Ft Fe) := by
  intro c A st vs s hsc hv hown S r ns
  obtain ⟨o, eo⟩ : ∃ o, sAssignCR i tn.length Fi caps store Ft Fe st = o := ⟨_, rfl⟩
  rw [eo] at ns ⊢
  rw [exec_Assign_Name_used _ _ _ _ (hsw _ hsc)]
  refine wpAny_bind (wpAny_standAt (wpAny_bind ?_))
  show wpAny _ A (do let _ ← comprehension (.ListComp elt [⟨tgt, .Call (.Name "range" q1) [e0] [] q2, ifs, 0⟩] cs pos) cs c.env _ (newList []) false (eval (.Call (.Name "range" q1) [e0] [] q2) c.env) (some (assign (.Name nm p) c.env))) _ _ s
  refine wpAny_bind (wpAny_mono (comp_free (use := some (assign (.Name nm p) c.env)) (Q := fun _ s' => QS G c st vs s o .next s') (cl := closS c.env.cells cs.names []) rfl (fun x => hs c.env x) K.kind K.names ?_) (fun _ s' hq => wpAny_pure (wpAny_pure hq)) fun _ _ e => e)
  have eo' : (Fi st).bind (fun av st1 => (match av.data st1 with
      | some (.int m) => if 0 ≤ m ∧ m ≤ 100000 then compD tn.length caps store Ft Fe ((List.range m.toNat).map fun (k : Nat) => PyData.int k) st1 else .stuck
      | _ => .stuck).bind fun av st1 => match av with
        | .dat (.list acc) _ => match putSlot i (.own (.list acc)) st1 with
          | some st3 => Out.ok SRes.next st3
          | none => .stuck
        | _ => .stuck) = o := by
    rw [← eo]
    unfold sAssignCR eCompR
    cases Fi st <;> rfl
  refine Call_Name (trees := backTo q2 (starEach [e0] c.env)) rfl (load_builtin hsc S r hg (b := .type "range") rfl (by decide) hk (by decide) ?_)
  have es : starEach [e0] c.env = [(false, eval e0 c.env)] := by rw [hse]; rfl
  refine cw_type _ _ _ _ _ _ (by rw [es]; rfl) ?_
  rw [es]
  refine evalArgs_plain (spliced_cons ?_)
  refine h0.use hsc hv S r eo' ns fun av st1 v1 s1 ho q1 q2 q3 q4 q5 => spliced_nil ?_
  cases ea : av.data st1 with
  | none => rw [ea] at ho; exact absurd ho.symm ns
  | some xa =>
    have rv := q4.readV q1 ea
    rw [ea] at ho
    cases xa <;> first | exact absurd ho.symm ns | skip
    rename_i m
    refine hide fun b_ hb_ => ?_
    obtain ⟨u, rfl⟩ := rv.int_inv
    refine hb_ ?_
    simp only at ho
    split at ho
    case isFalse => exact absurd ho.symm ns
    rename_i hm
    simp only [compD] at ho
    cases ec : capSlots caps st1 with
    | none => rw [ec] at ho; exact absurd ho.symm ns
    | some pr =>
      refine hide fun b_ hb_ => ?_
      obtain ⟨sls, stc⟩ := pr
      rw [ec] at ho
      simp only at ho
      obtain ⟨rc, zc, _⟩ := capSlots_sound S.ok q1 ec
      obtain ⟨o1, eo1⟩ : ∃ o1, cLoop store Ft Fe ((List.range m.toNat).map fun (k : Nat) => PyData.int k) [] ⟨List.replicate tn.length .unset ++ sls, stc.ts⟩ = o1 := ⟨_, rfl⟩
      refine hb_ ?_
      rw [eo1] at ho
      refine compRange K T ht he hsc hv S q1 ec hm eo1 (fun q => by rw [q] at ho; exact ns ho.symm) (fun q => by rw [q] at ho; exact ho.symm) fun acc stF s' D C e1 dn cenv hC => ?_
      rw [e1] at ho
      simp only [Out.bind] at ho
      cases ep : putSlot i (.own (.list acc)) ⟨stc.ρ, stF.ts⟩ with
      | none => rw [ep] at ho; exact absurd ho.symm ns
      | some st3 =>
        rw [ep] at ho
        exact compStore S hown q1 rc q2 (zc.trans q3) (by rw [hv]; exact hn) (by unfold Env.kindOf; rw [hsc]; exact hl) r ep ho.symm dn hC
end
end Mine
namespace Mine
open PySem PySem.W PySem.Calls PyProof.Rows

noncomputable def dfold : List (PyData × PyData) → List (PyData × PyData) → Option (List (PyData × PyData))
  | [], kvs => some kvs
  | (k, x) :: r, kvs => if keysOk k kvs && decide (kvs.length ≤ 9999) then dfold r (dset k x kvs) else none

inductive VP (w : World) : List (Value × Value) → List (PyData × PyData) → Prop
  | nil : VP w [] []
  | cons {k v kx x l ps} : (∀ h B, Rd w h B k kx) → (∀ h B, Rd w h B v x) → VP w l ps → VP w ((k, v) :: l) ((kx, x) :: ps)

noncomputable def CE (G : GC) (sc : Scope) (e : Expr) (x : PyData) : Prop :=
  ∀ (c : FC) (A : Around) (E : Value → Shared → Prop) (s : Shared) (Q : Value → Shared → Prop), c.env.scope = sc → c.Ok G → G.Ok → KeepAll G.H s.heap → (∀ v tk, (∀ h B, Rd G.w h B v x) → Q v { s with toks := tk }) → wpAny G.M A (eval e c.env) Q E s

inductive CEs (G : GC) (sc : Scope) : List (Option Expr) → List Expr → List (PyData × PyData) → Prop
  | nil : CEs G sc [] [] []
  | cons {k v kx x ks vs ps} : CE G sc k kx → CE G sc v x → CEs G sc ks vs ps → CEs G sc (some k :: ks) (v :: vs) ((kx, x) :: ps)

section
variable {G : GC} {c : FC} {st : St} {vs : Nat → Value} {s s' : Shared} {sc : Scope} {vars : List Str} {n : Nat} {A : Around} {E : Value → Shared → Prop}

theorem CE_str {i : Str} {k p} : CE G sc (.Constant (.str i) k p) (.str i) := fun c A E s Q _ _ _ _ h => Constant_str (h _ _ fun _ _ => .str _ _)
theorem CE_neg {i : Int} {k p p2} : CE G sc (.UnaryOp .USub (.Constant (.int i) k p) p2) (.int (-i)) := fun c A E s Q _ _ _ _ h =>
  eval_UnaryOp' (wpAny_Constant_int (P.neg_int (h _ _ fun _ _ => .int _ _)))
theorem CE_glob {nm : Str} {p : Pos} {i : Int} {t : Tok} (hg : G.mg nm = some (.int i t)) (hk : sc.names.lookup nm = some .globalImplicit) (hd : (nm == ("__debug__" : Str)) = false) : CE G sc (.Name nm p) (.int i) := by
  intro c A E s Q hsc ok gok kG h
  refine Name_function_global ok.kind (by unfold Env.kindOf; rw [hsc]; exact hk) (loadGlobal_global (mg := G.mg) ?_ hg ?_) hd
  · rw [ok.globals]; exact gok.g.keeps kG
  · exact h _ s.toks fun _ _ => .int _ _

theorem evalPairs_sound {pos : Pos} (hsc : c.env.scope = sc) (ok : c.Ok G) (gok : G.Ok) : ∀ {keys : List (Option Expr)} {values : List Expr} {ps : List (PyData × PyData)}, CEs G sc keys values ps → ∀ {s : Shared} {Q : List (Value × Value) → Shared → Prop}, KeepAll G.H s.heap →
    (∀ l tk, VP G.w l ps → Q l { s with toks := tk }) → wpAny G.M A (evalPairs (pairTrees keys values c.env pos)) Q E s := by
  intro keys values ps H
  induction H with
  | nil => intro s Q kG h; exact evalPairs_nil (h [] s.toks .nil)
  | cons hk hv hr ih =>
    intro s Q kG h
    refine evalPairs_cons (hk c A E s _ hsc ok gok kG fun kv tk rk => ?_)
    refine wpAny_bind (hv c A E _ _ hsc ok gok kG fun vv tk2 rv => wpAny_bind (wpAny_standAt (wpAny_pure ?_)))
    exact ih kG fun l tk3 vp => h _ _ (.cons rk rv vp)

theorem CEs.len {keys : List (Option Expr)} {values : List Expr} {ps : List (PyData × PyData)} (h : CEs G sc keys values ps) : keys.length = ps.length ∧ keys.length = values.length ∧ keys.all (·.isSome) = true := by
  induction h with
  | nil => exact ⟨rfl, rfl, rfl⟩
  | cons _ _ _ ih => exact ⟨by simp [ih.1], by simp [ih.2.1], by simpa using ih.2.2⟩

structure PD (w : World) (h : Heap) (d : Addr) (kvs : List (PyData × PyData)) : Prop where
  obj : ∃ es n, h.get? d = some (DObj es n) ∧ RdEnts w h (fun _ => True) es.toList kvs
  nd : (kvs.map (·.1)).Nodup

theorem keys_len : ∀ {es : List DictEntry} {kvs : List (PyData × PyData)} {w : World} {h : Heap} {B : Addr → Prop}, RdEnts w h B es kvs → es.length = kvs.length :=
  RdEnts.ind (P := fun vs xs => vs.length = xs.length) rfl fun _ _ _ e => congrArg (· + 1) e

theorem storeAll_sound (hu : A.units + 1 < cLine) {d : Addr} : ∀ {l : List (Value × Value)} {ps kvs res : List (PyData × PyData)}, VP G.w l ps → ∀ {s : Shared} {Q : PUnit → Shared → Prop}, PD G.w s.heap d kvs → dfold ps kvs = some res →
    (∀ h' tk, PD G.w h' d res → (∀ b, b ≠ d → h'.get? b = s.heap.get? b) → Q PUnit.unit { s with heap := h', toks := tk }) → wpAny G.M A (storeAll d l) Q E s := by
  intro l ps kvs res H
  induction H generalizing kvs with
  | nil =>
    intro s Q P e h
    simp only [dfold, Option.some.injEq] at e
    refine hide fun b_ hb_ => ?_
    subst e
    refine hb_ ?_
    unfold storeAll
    rw [List.forIn_nil]
    exact wpAny_pure (h s.heap s.toks P fun _ _ => rfl)
  | @cons key v kx x _ _ rk rv r ih =>
    intro s Q P e h
    simp only [dfold] at e
    split at e
    · rename_i hk
      simp only [Bool.and_eq_true, decide_eq_true_eq] at hk
      refine hide fun b_ hb_ => ?_
      obtain ⟨⟨es, m, eo, re⟩, nd⟩ := P
      refine hb_ ?_
      unfold storeAll
      rw [List.forIn_cons]
      refine wpAny_bind (wpAny_bind ?_)
      refine dset_sound (b := false) (B := fun _ => True) hu trivial eo re nd (by omega) (rk _ _) (rv _ _) hk.1 fun h1 tk1 S1 => wpAny_pure ?_
      refine ih (s := { s with heap := h1, toks := tk1 }) ⟨S1.obj, S1.nd⟩ e fun h2 tk2 P2 sm2 => ?_
      exact h h2 tk2 P2 fun b nb => (sm2 b nb).trans (S1.same b nb)
    · refine hide fun b_ hb_ => ?_
      cases e

theorem PD.new {w : World} {h : Heap} : PD w (h.push { cls := .type "dict", data := .dict #[] }) h.objs.size [] := ⟨⟨#[], 0, Heap.get?_push_size _ rfl, .nil⟩, by simp⟩
theorem PD.rd {w : World} {h : Heap} {d : Addr} {kvs : List (PyData × PyData)} {B : Addr → Prop} (p : PD w h d kvs) (nb : ¬ B d) (ns : d ≠ sysModules) : Rd w h B (.ref d) (.dict kvs) := by
  obtain ⟨⟨es, n, e, r⟩, nd⟩ := p
  exact .dict e nb ns nd (r.mono fun b o _ q => absurd trivial q)

noncomputable def eDisp (res : Option (List (PyData × PyData))) : EF := fun st => match res with
  | some kvs => .ok (.dat (.dict kvs) true) st
  | none => .stuck

theorem finDisp {kvs : List (PyData × PyData)} {h' : Heap} {tk : Nat} (S : Surr G c n A) (r : SR G c st vs s) (p : PD G.w h' s.heap.objs.size kvs) (k : KeepAll s.heap h') : QE G c st vs s (.ok (.dat (.dict kvs) true) st) (.ref s.heap.objs.size) { s with heap := h', toks := tk } := by
  refine ⟨r.keepAll S.ok k ⟨rfl, rfl, rfl⟩, k.but _, .refl _, p.rd (newB (banIn S.ok r)) ?_, ⟨_, rfl, size_none _⟩⟩
  intro q
  obtain ⟨o, e⟩ := S.gok.sys
  have := base_stays S.ok r _ _ e
  rw [← q, size_none] at this; cases this

theorem SE_dict0 {p : Pos} : SE G sc vars n (.Dict [] [] p) (eDisp (some [])) := by
  intro c A st vs s hsc hv S r ns
  exact wpAny_Dict_empty (finDisp (tk := s.toks) S r .new (KeepAll.push _ _))

theorem SE_disp {keys : List (Option Expr)} {values : List Expr} {p : Pos} {ps : List (PyData × PyData)} (h : CEs G sc keys values ps) (h0 : ps ≠ []) (hl : ps.length ≤ 15) : SE G sc vars (n + 1) (.Dict keys values p) (eDisp (dfold ps [])) := by
  intro c A st vs s hsc hv S r ns
  obtain ⟨l1, l2, l3⟩ := h.len
  cases ef : dfold ps [] with
  | none => rw [ef] at ns; exact absurd rfl ns
  | some res =>
    rw [ef] at ns
    have kG := base_stays S.ok r
    refine wpAny_Dict_any l3 l2 (fun q => h0 (List.length_eq_zero_iff.mp (by rw [← l1, q]; rfl))) (by omega) ?_
    refine evalPairs_sound hsc S.ok S.gok h (s := { s with heap := s.heap.push { cls := .type "dict", data := .dict #[] } }) (kG.trans (KeepAll.push _ _)) fun l tk vp => ?_
    refine storeAll_sound (by have := room20 S; omega) vp (s := { s with heap := s.heap.push { cls := .type "dict", data := .dict #[] }, toks := tk }) .new ef fun h' tk2 p2 sm => ?_
    refine finDisp S r p2 fun b o e => ?_
    exact (sm b (Nat.ne_of_lt (Heap.lt_size e))).trans (Heap.get?_push_of_some _ e)

theorem subDict_sound {pos : Pos} {keys : List (Option Expr)} {values : List Expr} {ps res : List (PyData × PyData)} (hsc : c.env.scope = sc) (ok : c.Ok G) (gok : G.Ok) (hu : A.units + 1 < cLine) (h : CEs G sc keys values ps) (hf : dfold ps [] = some res) {Q : Addr → Shared → Prop} (kG : KeepAll G.H s.heap)
    (hq : ∀ h' tk, PD G.w h' s.heap.objs.size res → KeepAll s.heap h' → Q s.heap.objs.size { s with heap := h', toks := tk }) : wpAny G.M A (subDict (pairTrees keys values c.env pos)) Q E s := by
  refine hide fun b_ hb_ => ?_
  obtain ⟨l1, l2, l3⟩ := h.len
  refine hb_ ?_
  have hn := pairTrees_length keys values c.env pos l3 l2
  unfold subDict
  refine wpAny_bind (wpAny_alloc ?_)
  refine wpAny_bind (wpAny_holding ?_)
  have fin : ∀ h' tk, PD G.w h' s.heap.objs.size res → (∀ b, b ≠ s.heap.objs.size → h'.get? b = (s.heap.push { cls := .type "dict", data := .dict #[] }).get? b) → Q s.heap.objs.size { s with heap := h', toks := tk } := fun h' tk p sm =>
    hq h' tk p fun b o e => (sm b (Nat.ne_of_lt (Heap.lt_size e))).trans (Heap.get?_push_of_some _ e)
  split
  · refine wpAny_bind (evalPairs_sound hsc ok gok h (s := { s with heap := s.heap.push { cls := .type "dict", data := .dict #[] } }) (kG.trans (KeepAll.push _ _)) fun l tk vp => ?_)
    refine wpAny_holding ?_
    exact wpAny_bind (storeAll_sound hu vp (s := { s with heap := s.heap.push { cls := .type "dict", data := .dict #[] }, toks := tk }) .new hf fun h' tk2 p2 sm => wpAny_pure (wpAny_pure (fin h' tk2 p2 sm)))
  · refine wpAny_bind (wpAny_rule ?_)
    have loop : ∀ {keys : List (Option Expr)} {values : List Expr} {ps kvs res : List (PyData × PyData)}, CEs G sc keys values ps → ∀ {s0 : Shared} {Q : PUnit → Shared → Prop} {d : Addr}, KeepAll G.H s0.heap → G.H.get? d = none → PD G.w s0.heap d kvs → dfold ps kvs = some res →
        (∀ h' tk, PD G.w h' d res → (∀ b, b ≠ d → h'.get? b = s0.heap.get? b) → Q PUnit.unit { s0 with heap := h', toks := tk }) →
        wpAny G.M A (forIn (pairTrees keys values c.env pos) PUnit.unit fun (x : Sem Value × Sem Value) (_ : PUnit) => (do
          let kv ← x.1
          let vv ← holding [kv] x.2
          holding [kv, vv] (dictSet d kv vv)
          pure (ForInStep.yield PUnit.unit) : Sem (ForInStep PUnit))) Q E s0 := by
      intro keys values ps kvs res hc
      induction hc generalizing kvs with
      | nil =>
        intro s0 Q d kG hd P e h
        simp only [dfold, Option.some.injEq] at e
        refine hide fun b_ hb_ => ?_
        subst e
        refine hb_ ?_
        show wpAny _ _ (forIn ([] : List (Sem Value × Sem Value)) _ _) _ _ _
        rw [List.forIn_nil]
        exact wpAny_pure (h s0.heap s0.toks P fun _ _ => rfl)
      | cons hk hv hr ih =>
        intro s0 Q d kG hd P e h
        simp only [dfold] at e
        split at e
        · rename_i hk'
          simp only [Bool.and_eq_true, decide_eq_true_eq] at hk'
          show wpAny _ _ (forIn (_ :: _) _ _) _ _ _
          rw [List.forIn_cons]
          refine wpAny_bind ?_
          dsimp only
          refine wpAny_bind (hk c A E s0 _ hsc ok gok kG fun kv tk rk => ?_)
          refine wpAny_bind (wpAny_holding (wpAny_bind (hv c A E _ _ hsc ok gok kG fun vv tk2 rv => wpAny_bind (wpAny_standAt (wpAny_pure ?_)))))
          refine hide fun b_ hb_ => ?_
          obtain ⟨⟨es, m, eo, re⟩, nd⟩ := P
          refine hb_ ?_
          refine wpAny_bind (wpAny_holding ?_)
          refine dset_sound (b := false) (s := { s0 with toks := tk2 }) (B := fun _ => True) hu trivial eo re nd (by omega) (rk _ _) (rv _ _) hk'.1 fun h1 tk1 S1 => wpAny_pure ?_
          refine ih (s0 := { s0 with heap := h1, toks := tk1 }) (fun b o e => (S1.same b fun q => by subst q; rw [hd] at e; cases e).trans (kG b o e)) hd ⟨S1.obj, S1.nd⟩ e fun h2 tk3 P2 sm2 => ?_
          exact h h2 tk3 P2 fun b nb => (sm2 b nb).trans (S1.same b nb)
        · refine hide fun b_ hb_ => ?_
          cases e
    have hG : G.H.get? s.heap.objs.size = none := by
      cases q : G.H.get? s.heap.objs.size with
      | none => rfl
      | some o => have := kG _ _ q; rw [size_none] at this; cases this
    refine wpAny_bind ?_
    exact loop h (s0 := { s with heap := s.heap.push { cls := .type "dict", data := .dict #[] } }) (kG.trans (KeepAll.push _ _)) hG .new hf fun h' tk p sm => wpAny_pure (wpAny_pure (fin h' tk p sm))
end
end Mine
namespace Mine
open PySem PySem.W PySem.Calls PyProof.Rows

section
variable {prog : Program} {w : World} {K : Type} [DecidableEq K] {knd : KeyKind prog w K} {A : Around} {E : Value → Shared → Prop} {s : Shared}
theorem dictPut_pairs {d : Addr} {kvs : List (K × Value)} {k : K} {key v : Value} {Q : Unit → Shared → Prop} (hkey : knd.is k key = true) (hm : s.heap.DictOf knd d kvs)
    (hQ : ∀ h', h'.DictOf knd d (stored kvs k v) → Heap.SameBut d s.heap h' → Q () { s with heap := h' })
    (hsz : kvs.length ≤ sizeLine) :
    wpAny (model prog w) A (dictPut d (knd.hash k) key v) Q E s := by
  refine hide fun b_ hb_ => ?_
  obtain ⟨o, es, ep, ho, hc, hd, hk, hp, hn⟩ := hm
  refine hb_ ?_
  have hes : es.size ≤ sizeLine := by have e1 := hp.length; have e2 : es.toList.length = es.size := by simp
                                      omega
  unfold dictPut
  refine wpAny_bind (wpAny_dictFind_of hkey ho hd hk ?_)
  have hidx : (es.findIdx? fun e => knd.is k e.key) = kvs.findIdx? fun kv => decide (kv.1 = k) := by
    rw [← hp.findIdx k]; obtain ⟨l⟩ := es; simp
  cases hi : es.findIdx? fun e => knd.is k e.key with
  | some i =>
    refine wpAny_updateDict ho hd (hQ _ ⟨_, _, ep, Heap.get?_update_self _ ho (Obj.isFreed_of_dict (Obj.data_mapDict hd _)),
      hc.mapDict _, Obj.data_mapDict hd _, hk.modify _ _, ?_, ?_⟩ (Heap.SameBut.update ..))
    · rw [stored, if_pos (any_of_findIdx_some (hidx ▸ hi))]
      have hl : (es.toList.findIdx? fun e => knd.is k e.key) = some i := by rw [← hi]; obtain ⟨l⟩ := es; simp
      have := hp.modify hn hl v
      obtain ⟨l⟩ := es
      simpa using this
    · rw [stored, if_pos (any_of_findIdx_some (hidx ▸ hi)), keys_map_store]; exact hn
  | none =>
    have hnot : k ∉ kvs.map (·.1) := not_mem_of_findIdx_none (hidx ▸ hi)
    have hany : ¬ (kvs.any fun kv => decide (kv.1 = k)) = true := by
      rw [List.any_eq_true]; rintro ⟨kv, hkv, he⟩
      exact hnot (List.mem_map.mpr ⟨kv, hkv, of_decide_eq_true he⟩)
    refine wpAny_updateDictKeys (hz := hes) ho hd (hQ _ ⟨_, _, ep + 1, Heap.get?_update_self _ ho (Obj.isFreed_of_dict (Obj.data_mapDictKeys hd _)),
      hc.mapDictKeys _, Obj.data_mapDictKeys hd _, hk.push hkey _, ?_, ?_⟩ (Heap.SameBut.update ..))
    · rw [stored, if_neg hany]
      have := hp.append hkey (knd.hash k) v
      obtain ⟨l⟩ := es
      simpa using this
    · rw [stored, if_neg hany, List.map_append, List.nodup_append]
      refine ⟨hn, by simp, ?_⟩
      intro a ha b hb
      simp only [List.map_cons, List.map_nil, List.mem_singleton] at hb
      subst hb
      exact fun e => hnot (e ▸ ha)
end

section
variable {G : GC} {c : FC} {st : St} {vs : Nat → Value} {s s' : Shared} {sc : Scope} {vars : List Str} {n : Nat} {A : Around} {E : Value → Shared → Prop}

theorem dput_sound {d : Addr} {kvs : List (PyData × PyData)} {k : Str} {x : PyData} {key v : Value} {hs : Int} {Q : Unit → Shared → Prop} (ehs : hs = hkey G.w (PyData.str k)) (P : PD G.w s.heap d kvs) (rk : ∀ (h : Heap) (B : Addr → Prop), Rd G.w h B key (PyData.str k)) (rv : ∀ (h : Heap) (B : Addr → Prop), Rd G.w h B v x) (hk : (kvs.all fun p => isStrK p.1) = true) (hl : kvs.length ≤ 9999)
    (h : ∀ h', PD G.w h' d (dset (PyData.str k) x kvs) → (∀ b, b ≠ d → h'.get? b = s.heap.get? b) → Q () { s with heap := h' }) : wpAny G.M A (dictPut d hs key v) Q E s := by
  refine hide fun b_ hb_ => ?_
  obtain ⟨⟨es, m, eo, re⟩, nd⟩ := P
  refine hb_ ?_
  have hi : (PySem.strKind G.prog G.w).is k key = true := str_hrd (h := s.heap) (B := fun _ => True) k key (rk _ _)
  refine set_pairs (tk := s.toks) (B := fun _ => True) (knd := PySem.strKind G.prog G.w) (enc := PyData.str) eqv_str (fun a b e => by cases e; rfl) (fun h => str_hrd) (fun h k v e => isStr_rd' e) (fun _ => rfl) ?_ trivial eo re nd (by omega) (rk _ _) (rv _ _) (keys_str hk) (fun h' q => h h' ⟨q.obj, q.nd⟩ q.same)
  intro kv k' E Q q1 q2 q3 q4
  obtain rfl : k' = k := (PySem.strKind G.prog G.w).inj _ _ _ q1 hi
  have hh : hkey G.w (PyData.str k') = (PySem.strKind G.prog G.w).hash k' := rfl
  rw [ehs, hh]
  exact dictPut_pairs (knd := PySem.strKind G.prog G.w) (k := k') q1 q2 q3 q4

theorem RdEnts.getE {w : World} {h : Heap} {B : Addr → Prop} {es : List DictEntry} {kvs : List (PyData × PyData)} {i : Nat} {p : PyData × PyData} (r : RdEnts w h B es kvs) (e : kvs[i]? = some p) : ∃ e, es[i]? = some e ∧ e.hash = hkey w p.1 ∧ Rd w h B e.key p.1 ∧ Rd w h B e.val p.2 :=
  RdEnts.ind (P := fun es kvs => ∀ i p, kvs[i]? = some p → ∃ e, es[i]? = some e ∧ e.hash = hkey w p.1 ∧ Rd w h B e.key p.1 ∧ Rd w h B e.val p.2) (fun _ _ e => by cases e)
    (fun e1 r1 r2 q i p e => by
      cases i with
      | zero => cases e; exact ⟨_, rfl, e1, r1, r2⟩
      | succ i => exact q i p e) r i p e

theorem merge_sound {d a : Addr} {kvs more res : List (PyData × PyData)} {Q : Unit → Shared → Prop} (da : d ≠ a) (na : a ≠ sysModules) (Pd : PD G.w s.heap d kvs) (Pa : PD G.w s.heap a more) (hne : kvs ≠ []) (hf : dfold more kvs = some res) (hs : (more.all fun p => isStrK p.1) = true)
    (h : ∀ h', PD G.w h' d res → (∀ b, b ≠ d → h'.get? b = s.heap.get? b) → Q () { s with heap := h' }) : wpAny G.M A (mergeMapping d (.ref a) false) Q E s := by
  refine hide fun b_ hb_ => ?_
  obtain ⟨⟨ea, ma, eoa, rea⟩, nda⟩ := id Pa
  obtain ⟨⟨ed, md, eod, red⟩, ndd⟩ := id Pd
  refine hb_ ?_
  have la := keys_len rea
  have ld := keys_len red
  have Ta : s.TypeIs (.ref a) "dict" := ⟨_, eoa, rfl⟩
  unfold mergeMapping
  refine wpAny_bind ?_
  refine wpAny_isInstance Ta isSubtype_dict_dict ?_
  rw [if_pos rfl]
  refine wpAny_bind (wpAny_specialOf Ta F.slot_dict_iter.lookup (wpAny_bind (wpAny_pure ?_)))
  rw [show ((some (Value.builtin "dict.__iter__") : Option Value) == some (.builtin "dict.__iter__")) = true by simp]
  dsimp only
  rw [if_neg (by simpa using na)]
  first | refine wpAny_bind (wpAny_dictEntries eod rfl ?_) | refine wpAny_bind (wpAny_pure (wpAny_bind (wpAny_dictEntries eod rfl ?_)))
  rw [if_neg (by
    intro q
    have q' : ed.size = 0 := Array.isEmpty_iff_size_eq_zero.mp q
    simp only [Array.length_toList] at ld
    exact hne (List.length_eq_zero_iff.mp (by omega)))]
  first | refine wpAny_bind (wpAny_dictEntries eoa rfl ?_) | refine wpAny_bind (wpAny_pure (wpAny_bind (wpAny_dictEntries eoa rfl ?_)))
  refine wpAny_bind (wpAny_dictEpoch eoa rfl ?_)
  refine wpAny_bind ?_
  simp only [Array.length_toList] at la
  refine wpAny_forIn_list _
    (fun rest _ s' => ∃ i kvs1 h1, rest = (List.range ea.size).drop i ∧ s' = { s with heap := h1 } ∧ dfold (more.drop i) kvs1 = some res ∧ PD G.w h1 d kvs1 ∧ (∀ b, b ≠ d → h1.get? b = s.heap.get? b))
    _ ?_ ?_ _ _ ⟨0, kvs, s.heap, by simp, rfl, by simpa using hf, Pd, fun _ _ => rfl⟩
  · rintro x rest b s' ⟨i, kvs1, h1, hr, rfl, hf1, P1, sm1⟩
    have hlt : i < ea.size := by
      rcases Nat.lt_or_ge i ea.size with q | q
      · exact q
      · rw [List.drop_of_length_le (by simpa using q)] at hr; cases hr
    have hd2 : (List.range ea.size).drop i = i :: (List.range ea.size).drop (i + 1) := by
      rw [List.drop_eq_getElem_cons (by simpa using hlt), List.getElem_range]
    rw [hd2] at hr
    refine hide fun b_ hb_ => ?_
    obtain ⟨rfl, hr2⟩ := List.cons.inj hr
    have hm : more[x]? = some (more[x]'(by omega)) := List.getElem?_eq_getElem _
    obtain ⟨p, ep⟩ : ∃ p, p = more[x]'(by omega) := ⟨_, rfl⟩
    rw [← ep] at hm
    have hdm : more.drop x = p :: more.drop (x + 1) := by rw [List.drop_eq_getElem_cons (by omega), ep]
    rw [hdm] at hf1
    obtain ⟨pk, px⟩ := p
    refine hb_ ?_
    simp only [dfold] at hf1
    split at hf1
    case isFalse => cases hf1
    rename_i hkk
    simp only [Bool.and_eq_true, decide_eq_true_eq] at hkk
    have hpk : isStrK pk = true := by
      have := List.all_eq_true.mp hs _ (List.mem_of_getElem? hm)
      exact this
    obtain ⟨k, rfl⟩ : ∃ k, pk = PyData.str k := by cases pk <;> simp [isStrK] at hpk; exact ⟨_, rfl⟩
    refine hide fun b_ hb_ => ?_
    obtain ⟨e, he, hh, rk, rv⟩ := rea.getE hm
    refine hb_ ?_
    have he' : ea[x]? = some e := by rw [← Array.getElem?_toList]; exact he
    have ha1 : h1.get? a = some (DObj ea ma) := (sm1 a (Ne.symm da)).trans eoa
    refine wpAny_bind (wpAny_dictEntries (s := { s with heap := h1 }) ha1 rfl ?_)
    rw [he']
    dsimp only
    refine wpAny_bind (wpAny_holding ?_)
    rw [if_neg (by decide)]
    have hks : (kvs1.all fun p => isStrK p.1) = true := by
      have := hkk.1
      simp only [keysOk, isIntK, isTupK, isStrK, Bool.false_and, Bool.true_and, Bool.false_or] at this
      exact this
    refine dput_sound (s := { s with heap := h1 }) hh P1 (fun h B => rk.mono fun b o _ q => absurd trivial q) (fun h B => rv.mono fun b o _ q => absurd trivial q) hks (by omega) fun h2 P2 sm2 => ?_
    have ha2 : h2.get? a = some (DObj ea ma) := (sm2 a (Ne.symm da)).trans ha1
    refine wpAny_bind (wpAny_dictEpoch (s := { s with heap := h2 }) ha2 rfl ?_)
    rw [if_neg (by simp)]
    exact wpAny_pure ⟨x + 1, _, h2, hr2, rfl, hf1, P2, fun b nb => (sm2 b nb).trans (sm1 b nb)⟩
  · rintro b s' ⟨i, kvs1, h1, hr, rfl, hf1, P1, sm1⟩
    have hge : ea.size ≤ i := by
      have := congrArg List.length hr
      simp at this
      omega
    rw [List.drop_of_length_le (by omega)] at hf1
    simp only [dfold, Option.some.injEq] at hf1
    subst hf1
    exact wpAny_pure (h h1 P1 sm1)
end
end Mine
namespace Mine
open PySem PySem.W PySem.Calls PyProof.Rows

noncomputable def flushS (run : List (Sem Value × Sem Value)) (main : Option Addr) : Sem (Option Addr) := do
  if run.isEmpty then return main
  match main with
  | none => return some (← subDict run)
  | some d =>
    let sub ← holding [.ref d] (subDict run)
    (holding [.ref d, .ref sub] (mergeMapping d (.ref sub) false)).onRaise fun x => do let _ ← holding [.ref d, x] (runValue (.builtin "proto.let_go" {}))
    return some d
noncomputable def flushD (run : List (PyData × PyData)) (main : Option (List (PyData × PyData))) : Option (List (PyData × PyData)) := match main with
  | none => dfold run []
  | some kvs => (dfold run []).bind fun sub => if sub.all (fun p => isStrK p.1) && !kvs.isEmpty then dfold sub kvs else none
noncomputable def dispL : List (PyData × PyData) → List (PyData × PyData) → Option (List (PyData × PyData)) → Option (List (PyData × PyData))
  | [], run, main => if run.isEmpty then none else flushD run main
  | p :: r, run, main => if (run ++ [p]).length == 17 then (flushD (run ++ [p]) main).bind fun m => dispL r [] (some m) else dispL r (run ++ [p]) main

section
variable {G : GC} {c : FC} {st : St} {vs : Nat → Value} {s s' : Shared} {sc : Scope} {vars : List Str} {n : Nat} {A : Around} {E : Value → Shared → Prop}

theorem CEs.snoc {keys : List (Option Expr)} {values : List Expr} {ps : List (PyData × PyData)} {k v : Expr} {kx x : PyData} (h : CEs G sc keys values ps) (hk : CE G sc k kx) (hv : CE G sc v x) : CEs G sc (keys ++ [some k]) (values ++ [v]) (ps ++ [(kx, x)]) := by
  induction h with
  | nil => exact .cons hk hv .nil
  | cons a b _ ih => exact .cons a b ih
theorem pairTrees_snoc {env : Env} {pos : Pos} {k v : Expr} : ∀ {keys : List (Option Expr)} {values : List Expr}, keys.all (·.isSome) = true → keys.length = values.length → pairTrees (keys ++ [some k]) (values ++ [v]) env pos = pairTrees keys values env pos ++ [(eval k env, do let x ← eval v env; standAt pos; pure x)] := by
  intro keys
  induction keys with
  | nil => intro values _ h; cases List.eq_nil_of_length_eq_zero h.symm; rfl
  | cons k' ks ih =>
    intro values h hl
    cases values with | nil => cases hl | cons v' vs => ?_
    cases k' with | none => cases h | some k' => ?_
    show _ :: pairTrees (ks ++ [some k]) (vs ++ [v]) env pos = _ :: (pairTrees ks vs env pos ++ _)
    rw [ih h (Nat.succ.inj hl)]

noncomputable def MainOk (w : World) (h0 : Heap) (h : Heap) : Option Addr → Option (List (PyData × PyData)) → Prop
  | none, none => True
  | some d, some kvs => d = h0.objs.size ∧ PD w h d kvs
  | _, _ => False

theorem flush_sound {pos : Pos} {keys : List (Option Expr)} {values : List Expr} {ps kvs : List (PyData × PyData)} {h0 : Heap} (hsc : c.env.scope = sc) (ok : c.Ok G) (gok : G.Ok) (hu : A.units + 1 < cLine) (h : CEs G sc keys values ps) (hne : ps ≠ []) {main : Option Addr} {mainD : Option (List (PyData × PyData))}
    (hm : MainOk G.w h0 s.heap main mainD) (h0s : main = none → s.heap = h0) (hf : flushD ps mainD = some kvs) {Q : Option Addr → Shared → Prop} (kG : KeepAll G.H h0) (k0 : KeepAll h0 s.heap)
    (hq : ∀ h' tk, PD G.w h' h0.objs.size kvs → KeepAll h0 h' → Q (some h0.objs.size) { s with heap := h', toks := tk }) : wpAny G.M A (flushS (pairTrees keys values c.env pos) main) Q E s := by
  obtain ⟨l1, l2, l3⟩ := h.len
  have hn := pairTrees_length keys values c.env pos l3 l2
  unfold flushS
  rw [if_neg (by
    intro q
    have : (pairTrees keys values c.env pos).length = 0 := by rw [List.isEmpty_iff.mp q]; rfl
    exact hne (List.length_eq_zero_iff.mp (by omega)))]
  have fin : ∀ {X : Sem (Option Addr)}, wpAny G.M A X Q E s → wpAny G.M A (pure PUnit.unit >>= fun _ => X) Q E s := fun h => wpAny_bind (wpAny_pure h)
  cases main with
  | none =>
    cases mainD with
    | some _ => exact hm.elim
    | none =>
      have := h0s rfl
      subst this
      have body : wpAny G.M A (do return some (← subDict (pairTrees keys values c.env pos))) Q E s :=
        wpAny_bind (subDict_sound hsc ok gok hu h hf kG fun h' tk p k => wpAny_pure (hq h' tk p k))
      first | exact body | exact fin body
  | some d =>
    cases mainD with
    | none => exact hm.elim
    | some cur =>
      obtain ⟨rfl, Pd⟩ := hm
      simp only [flushD] at hf
      obtain ⟨sub, es, e2⟩ := Option.bind_eq_some_iff.mp hf
      split at e2
      case isFalse => cases e2
      rename_i hc
      simp only [Bool.and_eq_true, Bool.not_eq_true'] at hc
      have hd0 : ∃ o, s.heap.get? h0.objs.size = some o := by obtain ⟨⟨es, n, e, _⟩, _⟩ := Pd; exact ⟨_, e⟩
      have dG : G.H.get? h0.objs.size = none := by
        cases q : G.H.get? h0.objs.size with
        | none => rfl
        | some o => have := kG _ _ q; rw [size_none] at this; cases this
      have body : wpAny G.M A (do
          let sub ← holding [.ref h0.objs.size] (subDict (pairTrees keys values c.env pos))
          (holding [.ref h0.objs.size, .ref sub] (mergeMapping h0.objs.size (.ref sub) false)).onRaise fun x => do let _ ← holding [.ref h0.objs.size, x] (runValue (.builtin "proto.let_go" {}))
          return some h0.objs.size) Q E s := by
        refine wpAny_bind (wpAny_holding (subDict_sound hsc ok gok hu h es (kG.trans k0) fun h1 tk1 p1 k1 => ?_))
        have dne : h0.objs.size ≠ s.heap.objs.size := fun q => by obtain ⟨o, e⟩ := hd0; rw [q, size_none] at e; cases e
        have sysne : s.heap.objs.size ≠ sysModules := by
          intro q
          obtain ⟨o, e⟩ := gok.sys
          have := k0 _ _ (kG _ _ e)
          rw [← q, size_none] at this; cases this
        have Pd1 : PD G.w h1 h0.objs.size cur := by
          obtain ⟨⟨es, n, e, r⟩, nd⟩ := Pd
          exact ⟨⟨es, n, k1 _ _ e, r.mono fun b o e n => ⟨k1 b o e, n⟩⟩, nd⟩
        refine wpAny_bind (wpAny_onRaise (wpAny_mono (wpAny_holding (merge_sound (s := { s with heap := h1, toks := tk1 }) (E := fun _ _ => False) dne sysne Pd1 p1 (fun q => by rw [q] at hc; simp at hc) e2 hc.1 fun h2 P2 sm2 => ?_)) (fun _ _ q => q) fun _ _ q => q.elim))
        refine wpAny_pure (hq h2 tk1 P2 fun b o e => ?_)
        exact (sm2 b fun q => by subst q; rw [size_none] at e; cases e).trans (k1 b o (k0 b o e))
      first | exact body | exact fin body

theorem SE_dispL {keys : List (Option Expr)} {values : List Expr} {p : Pos} {ps : List (PyData × PyData)} (h : CEs G sc keys values ps) (h0 : ps ≠ []) : SE G sc vars (n + 1) (.Dict keys values p) (eDisp (dispL ps [] none)) := by
  intro c A st vs s hsc hv S r ns
  obtain ⟨l1, l2, l3⟩ := h.len
  cases ef : dispL ps [] none with
  | none => rw [ef] at ns; exact absurd rfl ns
  | some res =>
    rw [ef] at ns
    have kG := base_stays S.ok r
    have hu : A.units + 1 < cLine := by have := room20 S; omega
    rw [arm_eval_Dict, zip_pairTrees keys values c.env p l3 l2]
    refine wpAny_bind (wpAny_standAt ?_)
    unfold dictDisplay
    dsimp only
    have hf : ∀ (f : (Option (Sem Value) × Sem Value) → (Option Addr × List (Sem Value × Sem Value)) → Sem (ForInStep (Option Addr × List (Sem Value × Sem Value)))),
        (∀ (k v : Sem Value) (main : Option Addr) (run : List (Sem Value × Sem Value)), f (some k, v) (main, run) = if (run ++ [(k, v)]).length == 17 then (do let m ← flushS (run ++ [(k, v)]) main; pure (.yield (m, []))) else pure (.yield (main, run ++ [(k, v)]))) →
        ∀ {ksR : List (Option Expr)} {vsR : List Expr} {psR : List (PyData × PyData)}, CEs G sc ksR vsR psR → ∀ {ksr : List (Option Expr)} {vsr : List Expr} {psr : List (PyData × PyData)} {main : Option Addr} {mainD : Option (List (PyData × PyData))} {s1 : Shared}, CEs G sc ksr vsr psr → MainOk G.w s.heap s1.heap main mainD →
          (main = none → s1.heap = s.heap) → KeepAll s.heap s1.heap → (∃ tk, s1 = { s with heap := s1.heap, toks := tk }) → dispL psR psr mainD = some res → ∀ {Q : Option Addr × List (Sem Value × Sem Value) → Shared → Prop},
          (∀ (ksr : List (Option Expr)) (vsr : List Expr) (psr : List (PyData × PyData)) (main : Option Addr) (mainD : Option (List (PyData × PyData))) (s2 : Shared), CEs G sc ksr vsr psr → psr ≠ [] → MainOk G.w s.heap s2.heap main mainD → (main = none → s2.heap = s.heap) → KeepAll s.heap s2.heap → (∃ tk, s2 = { s with heap := s2.heap, toks := tk }) → flushD psr mainD = some res → Q (main, pairTrees ksr vsr c.env p) s2) →
          wpAny G.M A (forIn ((pairTrees ksR vsR c.env p).map fun p => (some p.1, p.2)) (main, pairTrees ksr vsr c.env p) f) Q (EE G c (Out.ok (AV.dat (.dict res) true) st)) s1 := by
      intro f hfe ksR vsR psR hR
      induction hR with
      | nil =>
        intro ksr vsr psr main mainD s1 hr hm hm0 k0 hs1 hd Q hQ
        show wpAny _ _ (forIn ([] : List (Option (Sem Value) × Sem Value)) _ _) _ _ _
        rw [List.forIn_nil]
        simp only [dispL] at hd
        split at hd
        · cases hd
        · rename_i hne
          exact wpAny_pure (hQ ksr vsr psr main mainD s1 hr (fun q => hne (by rw [q]; rfl)) hm hm0 k0 hs1 hd)
      | cons hk hv hrest ih =>
        intro ksr vsr psr main mainD s1 hr hm hm0 k0 hs1 hd Q hQ
        show wpAny _ _ (forIn ((some _, _) :: _) _ _) _ _ _
        rw [List.forIn_cons, hfe]
        obtain ⟨lr1, lr2, lr3⟩ := hr.len
        have hr' := hr.snoc hk hv
        rw [← pairTrees_snoc (env := c.env) (pos := p) lr3 lr2]
        have hlen := pairTrees_length _ _ c.env p hr'.len.2.2 hr'.len.2.1
        rw [hlen, hr'.len.1]
        simp only [dispL] at hd
        split at hd
        · rename_i h17
          rw [if_pos h17]
          obtain ⟨kvs, ek, er⟩ := Option.bind_eq_some_iff.mp hd
          refine wpAny_bind (wpAny_bind (flush_sound hsc S.ok S.gok hu hr' (by simp) hm hm0 ek kG k0 fun h' tk P2 k2 => wpAny_pure ?_))
          obtain ⟨tk1, e1⟩ := hs1
          exact ih (ksr := []) (vsr := []) (psr := []) (main := some s.heap.objs.size) (mainD := some kvs) .nil ⟨rfl, P2⟩ (fun q => by cases q) k2 ⟨tk, by rw [e1]⟩ er hQ
        · rename_i h17
          rw [if_neg h17]
          exact wpAny_bind (wpAny_pure (ih hr' hm hm0 k0 hs1 hd hQ))
    refine wpAny_bind (hf _ (fun k v main run => ?_) h (ksr := []) (vsr := []) (psr := []) (main := none) (mainD := none) (s1 := s) .nil trivial (fun _ => rfl) (KeepAll.refl _) ⟨s.toks, rfl⟩ ef fun ksr vsr psr main mainD s2 hr hne hm hm0 k0 hs2 hd => ?_)
    · cases hk17 : (run ++ [(k, v)]).length == 17 with
      | true => simp only [hk17, if_true]; rfl
      | false => simp only [hk17, Bool.false_eq_true, if_false]
    · obtain ⟨tk2, e2⟩ := hs2
      show wpAny _ _ (flushS (pairTrees ksr vsr c.env p) main >>= _) _ _ _
      refine wpAny_bind (flush_sound hsc S.ok S.gok hu hr hne hm hm0 hd kG k0 fun h' tk P2 k2 => ?_)
      rw [e2]
      exact wpAny_pure (finDisp S r P2 k2)
end
end Mine
namespace Mine
open PySem PySem.W PySem.Calls PyProof.Rows

theorem len0 {P : List Value → Prop} (h : P []) (vs : List Value) (e : vs.length = 0) : P vs := by cases vs with | nil => exact h | cons _ _ => cases e
theorem lenS {P : List Value → Prop} {n : Nat} (h : ∀ a vs, vs.length = n → P (a :: vs)) (vs : List Value) (e : vs.length = n + 1) : P vs := by cases vs with | nil => cases e | cons a vs => exact h a vs (Nat.succ.inj e)
theorem len1 {P : List Value → Prop} (h : ∀ a, P [a]) : ∀ vs : List Value, vs.length = 1 → P vs := lenS fun a => len0 (h a)
theorem len2 {P : List Value → Prop} (h : ∀ a b, P [a, b]) : ∀ vs : List Value, vs.length = 2 → P vs := lenS fun a => len1 (h a)
theorem len3 {P : List Value → Prop} (h : ∀ a b c, P [a, b, c]) : ∀ vs : List Value, vs.length = 3 → P vs := lenS fun a => len2 (h a)
theorem len4 {P : List Value → Prop} (h : ∀ a b c d, P [a, b, c, d]) : ∀ vs : List Value, vs.length = 4 → P vs := lenS fun a => len3 (h a)
theorem bind0 {s : Shared} {fd : FuncData} {ps : List Str} {dflt : List Value} (h : BindsTo s fd ⟨[], []⟩ (ps.zip ([] ++ dflt))) (vals : List Value) (e : vals.length = 0) : BindsTo s fd ⟨vals, []⟩ (ps.zip (vals ++ dflt)) := len0 (P := fun vals => BindsTo s fd ⟨vals, []⟩ (ps.zip (vals ++ dflt))) h vals e
theorem bind1 {s : Shared} {fd : FuncData} {ps : List Str} {dflt : List Value} (h : ∀ a, BindsTo s fd ⟨[a], []⟩ (ps.zip ([a] ++ dflt))) (vals : List Value) (e : vals.length = 1) : BindsTo s fd ⟨vals, []⟩ (ps.zip (vals ++ dflt)) := len1 (P := fun vals => BindsTo s fd ⟨vals, []⟩ (ps.zip (vals ++ dflt))) h vals e
theorem bind2 {s : Shared} {fd : FuncData} {ps : List Str} {dflt : List Value} (h : ∀ a b, BindsTo s fd ⟨[a, b], []⟩ (ps.zip ([a, b] ++ dflt))) (vals : List Value) (e : vals.length = 2) : BindsTo s fd ⟨vals, []⟩ (ps.zip (vals ++ dflt)) := len2 (P := fun vals => BindsTo s fd ⟨vals, []⟩ (ps.zip (vals ++ dflt))) h vals e
theorem bind3 {s : Shared} {fd : FuncData} {ps : List Str} {dflt : List Value} (h : ∀ a b c, BindsTo s fd ⟨[a, b, c], []⟩ (ps.zip ([a, b, c] ++ dflt))) (vals : List Value) (e : vals.length = 3) : BindsTo s fd ⟨vals, []⟩ (ps.zip (vals ++ dflt)) := len3 (P := fun vals => BindsTo s fd ⟨vals, []⟩ (ps.zip (vals ++ dflt))) h vals e
theorem bind4 {s : Shared} {fd : FuncData} {ps : List Str} {dflt : List Value} (h : ∀ a b c d, BindsTo s fd ⟨[a, b, c, d], []⟩ (ps.zip ([a, b, c, d] ++ dflt))) (vals : List Value) (e : vals.length = 4) : BindsTo s fd ⟨vals, []⟩ (ps.zip (vals ++ dflt)) := len4 (P := fun vals => BindsTo s fd ⟨vals, []⟩ (ps.zip (vals ++ dflt))) h vals e

structure LawG (G : GC) (P : Params) : Prop where
  ok : G.Ok
  X : (kFrag P).In G.H
  codes : ∀ p ∈ kCodes, G.H.CodeRec (.ref p.1) p.2
  C : G.C = 45

section
variable {G : GC} {P : Params} {sc : Scope} {vars : List Str} {n : Nat}

noncomputable def codeIs (v : Value) (q : Str) : Bool := match v with
  | .ref c => kCodes.any fun p => p.1 == c && p.2 == q
  | _ => false
theorem LawG.code (L : LawG G P) {v : Value} {q : Str} (e : codeIs v q = true) : G.H.CodeRec v q := by
  unfold codeIs at e
  split at e
  · obtain ⟨p, hp, h⟩ := List.any_eq_true.mp e
    simp only [Bool.and_eq_true, beq_iff_eq] at h
    have := L.codes p hp
    rwa [h.1, h.2] at this
  · cases e
theorem LawG.mg (L : LawG G P) {nm : Str} {v : Value} (e : nsIn (kFrag P) mainGlobals nm = some (some v)) : G.mg nm = some v := mg_of L.X L.ok.g e
theorem LawG.mgN (L : LawG G P) {nm : Str} (e : nsIn (kFrag P) mainGlobals nm = some none) : G.mg nm = none := mg_none_of L.X L.ok.g e

theorem hint : ∀ env : Env, env.scope.kind = .function → interactive env = false := fun env h => by unfold interactive; rw [h]; rfl

theorem SE_len {e : Expr} {p p2 : Pos} {F : EF} (L : LawG G P) (h : SE G sc vars (n + 1) e F) (hs : ∀ env rest, starEach (e :: rest) env = (false, eval e env) :: starEach rest env) (hg : nsIn (kFrag P) mainGlobals "len" = some none) (hk : sc.names.lookup ("len" : Str) = some .globalImplicit) :
    SE G sc vars (n + 1) (.Call (.Name "len" p) [e] [] p2) (eFn1 (fun x => (lenD x).map fun i => (.int i, false)) F) :=
  SE_fn1 h hs (b := .builtin "len") rfl (L.mgN hg) (by decide) hk (by decide) cw_builtin fun A s B a x z f _ _ r e => by
    obtain ⟨i, e1, e2⟩ := Option.map_eq_some_iff.mp e
    cases e2
    exact len_sound r e1
theorem SE_tupleOf {e : Expr} {p p2 : Pos} {F : EF} (L : LawG G P) (h : SE G sc vars (n + 1) e F) (hs : ∀ env rest, starEach (e :: rest) env = (false, eval e env) :: starEach rest env) (hg : nsIn (kFrag P) mainGlobals "tuple" = some none) (hk : sc.names.lookup ("tuple" : Str) = some .globalImplicit) :
    SE G sc vars (n + 1) (.Call (.Name "tuple" p) [e] [] p2) (eFn1 tupD F) :=
  SE_fn1 h hs (b := .type "tuple") rfl (L.mgN hg) (by decide) hk (by decide) cw_type fun A s B a x z f _ hB r e => tup_sound hB r e
theorem SE_listOf {e : Expr} {p p2 : Pos} {F : EF} (L : LawG G P) (h : SE G sc vars (n + 1) e F) (hs : ∀ env rest, starEach (e :: rest) env = (false, eval e env) :: starEach rest env) (hg : nsIn (kFrag P) mainGlobals "list" = some none) (hk : sc.names.lookup ("list" : Str) = some .globalImplicit) :
    SE G sc vars (n + 1) (.Call (.Name "list" p) [e] [] p2) (eFn1 lstD F) :=
  SE_fn1 h hs (b := .type "list") rfl (L.mgN hg) (by decide) hk (by decide) cw_type fun A s B a x z f _ hB r e => lst_sound hB r e
theorem SE_max {e e2 : Expr} {p p2 : Pos} {F F2 : EF} (L : LawG G P) (h : SE G sc vars (n + 1) e F) (h2 : SE G sc vars (n + 1) e2 F2) (hs : ∀ env rest, starEach (e :: rest) env = (false, eval e env) :: starEach rest env) (hs2 : ∀ env rest, starEach (e2 :: rest) env = (false, eval e2 env) :: starEach rest env)
    (hg : nsIn (kFrag P) mainGlobals "max" = some none) (hk : sc.names.lookup ("max" : Str) = some .globalImplicit) :
    SE G sc vars (n + 1) (.Call (.Name "max" p) [e, e2] [] p2) (eFn2 maxD F F2) :=
  SE_fn2 h h2 hs hs2 (b := .builtin "max") rfl (L.mgN hg) (by decide) hk (by decide) cw_builtin fun A s B a a2 x y z f hh _ _ ra rb e => max_sound hh ra rb e
theorem SE_isT {T : PyT} {nm : Str} {e : Expr} {p p2 p3 : Pos} {F : EF} (L : LawG G P) (h : SE G sc vars (n + 1) e F) (hs : ∀ env rest, starEach (e :: rest) env = (false, eval e env) :: starEach rest env)
    (hb : bootBuiltins nm = some (.type T.name)) (hn : nm ≠ "__name__") (hg : nsIn (kFrag P) mainGlobals "isinstance" = some none) (hg2 : nsIn (kFrag P) mainGlobals nm = some none) (hk : sc.names.lookup ("isinstance" : Str) = some .globalImplicit) (hk2 : sc.names.lookup nm = some .globalImplicit) (hd' : (nm == ("__debug__" : Str)) = false) :
    SE G sc vars (n + 1) (.Call (.Name "isinstance" p) [e, .Name nm p3] [] p2) (eIsi T F) :=
  SE_isi h hs (L.mgN hg) hk hb (L.mgN hg2) hn hk2 hd'

noncomputable def strC : Expr → Option Str
  | .Constant (.str k) _ _ => some k
  | _ => none
theorem strC_inv {e : Expr} {k : Str} (h : strC e = some k) : ∃ p q, e = .Constant (.str k) p q := by
  cases e with
  | Constant c p q => cases c <;> cases h; exact ⟨_, _, rfl⟩
  | _ => cases h
noncomputable def pairsOf : List (Option Expr) → List Expr → Option (List (PyData × PyData))
  | [], vs => if vs.isEmpty then some [] else none
  | k :: ks, vs => vs.head?.bind fun v => (k.bind strC).bind fun a => (strC v).bind fun b => (pairsOf ks vs.tail).map fun r => (.str a, .str b) :: r
theorem pairsOf_ind {P : List (Option Expr) → List Expr → List (PyData × PyData) → Prop} (h0 : P [] [] []) (h1 : ∀ {k v p q p' q' ks vs r}, P ks vs r → P (some (.Constant (.str k) p q) :: ks) (.Constant (.str v) p' q' :: vs) ((.str k, .str v) :: r)) : ∀ {ks vs ps}, pairsOf ks vs = some ps → P ks vs ps := by
  intro ks
  induction ks with
  | nil =>
    intro vs ps h
    cases vs <;> cases h
    exact h0
  | cons k ks ih =>
    intro vs ps h
    obtain ⟨v, hv, h⟩ := Option.bind_eq_some_iff.mp h
    obtain ⟨a, ha, h⟩ := Option.bind_eq_some_iff.mp h
    obtain ⟨b, hb, h⟩ := Option.bind_eq_some_iff.mp h
    obtain ⟨r, hr, rfl⟩ := Option.map_eq_some_iff.mp h
    obtain ⟨_, _, rfl⟩ := strC_inv hb
    cases vs <;> cases hv
    cases k with
    | none => cases ha
    | some k =>
      obtain ⟨_, _, rfl⟩ := strC_inv ha
      exact h1 (ih hr)
theorem pairsOf_ces {ks : List (Option Expr)} {vs : List Expr} {ps : List (PyData × PyData)} : pairsOf ks vs = some ps → CEs G sc ks vs ps := pairsOf_ind .nil (.cons CE_str CE_str)
theorem SE_table' {keys : List (Option Expr)} {values : List Expr} {p : Pos} (h : (pairsOf keys values).isSome = true) (h0 : ((pairsOf keys values).getD []).isEmpty = false) : SE G sc vars (n + 1) (.Dict keys values p) (eDisp (dispL ((pairsOf keys values).getD []) [] none)) := by
  obtain ⟨ps, e⟩ := Option.isSome_iff_exists.mp h
  rw [e] at h0 ⊢
  exact SE_dispL (pairsOf_ces e) (fun q => by simp only [Option.getD_some] at h0 q; rw [q] at h0; cases h0)
noncomputable def dispOf (e : Expr) : EF := match e with
  | .Dict ks vs _ => eDisp (dispL ((pairsOf ks vs).getD []) [] none)
  | _ => fun _ => .stuck
noncomputable def okDisp (e : Expr) : Bool := match e with
  | .Dict ks vs _ => (pairsOf ks vs).isSome && !((pairsOf ks vs).getD []).isEmpty
  | _ => false
theorem SE_dispOf {e : Expr} (h : okDisp e = true) : SE G sc vars (n + 1) e (dispOf e) := by
  unfold okDisp at h
  split at h
  · simp only [Bool.and_eq_true, Bool.not_eq_true'] at h
    exact SE_table' h.1 h.2
  · refine hide fun b_ hb_ => ?_
    cases h

theorem ret_spec {fa : Addr} {fd : FuncData} {e : Expr} {p : Pos} (D : DefAt G fa fd [.Return (some e) p] [] 0 []) (h : okDisp e = true) : FnSpec G 2 fa (fnOfS 0 0 [] (sSeq (sRet (dispOf e)) sNil)) :=
  fnSpec_of (n := 1) (locs := []) (da := []) D (fun _ _ => .nil) (fun x hx => by simp at hx) (by simp) (SSs_cons (SS_ret (SE_dispOf h)) SSs_nil)

theorem ns_some {K : Frag} {h : Heap} {a : Addr} {m : Str → Option Value} {n : Str} {v : Value} (X : K.In h) (G : h.Ns a m) (e : nsIn K a n = some (some v)) : m n = some v := by
  obtain ⟨o, es, ep, ho, hd, _, hf⟩ := G
  unfold nsIn at e
  split at e
  · rename_i c d es' n' sl q
    have := X _ _ q
    rw [ho] at this
    cases this
    cases hd
    split at e
    · rename_i en he
      cases e
      rw [← hf]
      unfold nsFind findBy
      rw [← Array.find?_toList, he]
      rfl
    · split at e <;> cases e
  · cases e
theorem ns_none {K : Frag} {h : Heap} {a : Addr} {m : Str → Option Value} {n : Str} (X : K.In h) (G : h.Ns a m) (e : nsIn K a n = some none) : m n = none := by
  refine hide fun b_ hb_ => ?_
  obtain ⟨o, es, ep, ho, hd, _, hf⟩ := G
  refine hb_ ?_
  unfold nsIn at e
  split at e
  · rename_i c d es' n' sl q
    have := X _ _ q
    rw [ho] at this
    refine hide fun b_ hb_ => ?_
    cases this
    cases hd
    refine hb_ ?_
    split at e
    · cases e
    · rename_i he
      rw [← hf]
      unfold nsFind findBy
      rw [← Array.find?_toList, he]
      rfl
  · cases e
noncomputable def isNsIn (K : Frag) (a : Addr) : Bool := match K.lookup a with
  | some ⟨_, _, .dict es _, _⟩ => es.toList.all fun e => match e.key with | .str _ _ => true | _ => false
  | _ => false
theorem ns_of {K : Frag} {h : Heap} {a : Addr} (X : K.In h) (e : isNsIn K a = true) : h.Ns a (h.nsMap a) := by
  refine .of_isNs ?_
  unfold isNsIn at e
  split at e
  · rename_i q
    unfold Heap.isNs
    rw [X _ _ q]
    show Array.all _ _ = true
    rw [← Array.all_toList]
    exact e
  · cases e

noncomputable def swapsB (sc cs : Scope) (nm : Str) (p pos : Pos) : Bool := (if sc.kind.isAnnotationScope then ScopeKind.function else sc.kind) == .function && sc.names.lookup nm == some .local && p.line == pos.line && !(cs.names.any fun (n, k) => n == nm && (k == .local || k == .cell))
theorem swaps_of {sc cs : Scope} {nm : Str} {p pos : Pos} {elt : Expr} {gens : List Comprehension} {line : Nat} (h : swapsB sc cs nm p pos = true) : ∀ env : Env, env.scope = sc → swapsWith (.ListComp elt gens cs pos) (some (.Name nm p)) line env = pure true := by
  rintro env rfl
  show pure (swapsB env.scope cs nm p pos) = pure true
  rw [h]

set_option maxHeartbeats 4000000 in
theorem excAt (L : LawG G P) : ExcOk G := by
  have hC := L.X 45 _ rfl
  exact ⟨_, _, 44, 24, _, _, _, _, _, _, _, _, _, _, _, _, _, _, _, G.H.nsMap _, G.H.nsMap 44, 42, _, _, _, _, _, ⟨(by rw [L.C]; exact hC), ns_of L.X rfl, L.X 24 _ rfl, ns_of L.X rfl, ns_none L.X (ns_of L.X rfl) rfl, ns_none L.X (ns_of L.X rfl) rfl, ns_none L.X (ns_of L.X rfl) rfl, ns_some L.X (ns_of L.X rfl) rfl, ns_none L.X (ns_of L.X rfl) rfl, ns_none L.X (ns_of L.X rfl) rfl,
    ⟨_, L.X 42 _ rfl, rfl⟩,
    ⟨⟨_, L.X 42 _ rfl, rfl⟩, L.code rfl, rfl, rfl, rfl, rfl, (fun s vals kG h => bind2 (fun _ _ => BindsTo.of_defaults rfl (kG _ _ (L.X _ _ rfl)) rfl rfl rfl) vals h), rfl, rfl, rfl, rfl⟩,
    rfl, rfl, fun env h => rfl⟩⟩
end
end Mine
namespace Mine
open PySem PySem.W PySem.Calls PyProof.Rows

noncomputable def F_is_whole : SF := (sSeq (sRet (eBool (BoolOp.And == .And) [(eIsi .int (eVar 0)), (eOp1 notD (eIsi .bool (eVar 0)))])) sNil)
noncomputable def fn_is_whole : Fn := fnOfS 1 0 [] F_is_whole
set_option maxHeartbeats 4000000 in
theorem spec_is_whole {G : GC} {P : Params} (L : LawG G P) : FnSpec G 2 61 fn_is_whole := by
  refine fnSpec_of (n := 1) (params := [("value" : Str)]) (locs := []) (k := 1) (dv := []) (da := []) ⟨⟨_, L.X 61 _ rfl, rfl⟩, L.code rfl, rfl, rfl, rfl, rfl, (fun s vals _ h => bind1 (fun _ => BindsTo.of_eq rfl) vals h), rfl, rfl, rfl, rfl⟩ (fun _ _ => .nil) (by decide) (by decide) ?_
  exact (SSs_cons (SS_ret (SE_boolop (.cons (SE_isT (T := .int) L (SE_var 0 rfl (by decide)) (fun _ _ => rfl) rfl (by decide) rfl rfl rfl rfl (by decide)) (.cons (SE_not (SE_isT (T := .bool) L (SE_var 0 rfl (by decide)) (fun _ _ => rfl) rfl (by decide) rfl rfl rfl rfl (by decide))) .nil)))) SSs_nil)


noncomputable def F_is_pair : SF := (sSeq (sRet (eBool (BoolOp.And == .And) [(eIsi .tuple (eVar 0)), (eOp2 (fun x y => (cmpD .Eq x y).map fun b => (.bool b, false)) (eFn1 (fun x => (lenD x).map fun i => (.int i, false)) (eVar 0)) (eDat (.int 2)))])) sNil)
noncomputable def fn_is_pair : Fn := fnOfS 1 0 [] F_is_pair
set_option maxHeartbeats 4000000 in
theorem spec_is_pair {G : GC} {P : Params} (L : LawG G P) : FnSpec G 2 68 fn_is_pair := by
  refine fnSpec_of (n := 1) (params := [("value" : Str)]) (locs := []) (k := 1) (dv := []) (da := []) ⟨⟨_, L.X 68 _ rfl, rfl⟩, L.code rfl, rfl, rfl, rfl, rfl, (fun s vals _ h => bind1 (fun _ => BindsTo.of_eq rfl) vals h), rfl, rfl, rfl, rfl⟩ (fun _ _ => .nil) (by decide) (by decide) ?_
  exact (SSs_cons (SS_ret (SE_boolop (.cons (SE_isT (T := .tuple) L (SE_var 0 rfl (by decide)) (fun _ _ => rfl) rfl (by decide) rfl rfl rfl rfl (by decide)) (.cons (SE_cmp (SE_len L (SE_var 0 rfl (by decide)) (fun _ _ => rfl) rfl rfl) SE_int rfl) .nil)))) SSs_nil)


noncomputable def F_is_label_row : SF := (sSeq (sRet (eBool (BoolOp.And == .And) [(eIsi .tuple (eVar 0)), (eOp2 (fun x y => (cmpD .Gt x y).map fun b => (.bool b, false)) (eFn1 (fun x => (lenD x).map fun i => (.int i, false)) (eVar 0)) (eDat (.int 0))), (eOp2 (fun x y => (cmpD .Eq x y).map fun b => (.bool b, false)) (eItem (eVar 0) (eDat (.int 0))) (eDat (.str "label")))])) sNil)
noncomputable def fn_is_label_row : Fn := fnOfS 1 0 [] F_is_label_row
set_option maxHeartbeats 4000000 in
theorem spec_is_label_row {G : GC} {P : Params} (L : LawG G P) : FnSpec G 2 131 fn_is_label_row := by
  refine fnSpec_of (n := 1) (params := [("row" : Str)]) (locs := []) (k := 1) (dv := []) (da := []) ⟨⟨_, L.X 131 _ rfl, rfl⟩, L.code rfl, rfl, rfl, rfl, rfl, (fun s vals _ h => bind1 (fun _ => BindsTo.of_eq rfl) vals h), rfl, rfl, rfl, rfl⟩ (fun _ _ => .nil) (by decide) (by decide) ?_
  exact (SSs_cons (SS_ret (SE_boolop (.cons (SE_isT (T := .tuple) L (SE_var 0 rfl (by decide)) (fun _ _ => rfl) rfl (by decide) rfl rfl rfl rfl (by decide)) (.cons (SE_cmp (SE_len L (SE_var 0 rfl (by decide)) (fun _ _ => rfl) rfl rfl) SE_int rfl) (.cons (SE_cmp (SE_item (SE_var 0 rfl (by decide)) SE_int (fun _ _ => by with_unfolding_all rfl)) SE_str rfl) .nil))))) SSs_nil)


noncomputable def F_law_row : SF := (sSeq (sAssign 1 (eList [])) (sSeq (sFor (eOp1 (upD 40) (eVar 0)) (tName 2) (sSeq (sAssign 3 (eIf (tst2 (cmpD .GtE) (eVar 2) (eDat (.int 0))) (eVar 2) (eOp2 (binD .Sub) (eDat (.int 7)) (eVar 2)))) (sSeq (sMeth 1 appendD [(eOp2 (binD .Mod) (eVar 3) (eDat (.int 1013)))]) (sSeq (sAssign 3 (eOp2 (binD .FloorDiv) (eVar 3) (eDat (.int 1013)))) (sSeq (sForR (eDat (.int 30)) (tName 4) (sSeq (sIf (tst2 (cmpD .Gt) (eVar 3) (eDat (.int 0))) (sSeq (sMeth 1 appendD [(eOp2 (binD .Mod) (eVar 3) (eDat (.int 1013)))]) (sSeq (sAssign 3 (eOp2 (binD .FloorDiv) (eVar 3) (eDat (.int 1013)))) sNil)) sNil) sNil)) sNil))))) (sSeq (sAssign 1 (eOp1 (upD 120) (eVar 1))) (sSeq (sMeth 1 reverseD []) (sSeq (sRet (eVar 1)) sNil)))))
noncomputable def fn_law_row : Fn := fnOfS 1 4 [] F_law_row
set_option maxHeartbeats 4000000 in
theorem spec_law_row {G : GC} {P : Params} (L : LawG G P) : FnSpec G 2 172 fn_law_row := by
  refine fnSpec_of (n := 1) (params := [("script" : Str)]) (locs := [("row" : Str), ("cell" : Str), ("number" : Str), ("turn" : Str)]) (k := 1) (dv := []) (da := []) ⟨⟨_, L.X 172 _ rfl, rfl⟩, L.code rfl, rfl, rfl, rfl, rfl, (fun s vals _ h => bind1 (fun _ => BindsTo.of_eq rfl) vals h), rfl, rfl, rfl, rfl⟩ (fun _ _ => .nil) (by decide) (by decide) ?_
  exact (SSs_cons (SS_assign 1 rfl (SE_list .nil) (fun _ => rfl)) (SSs_cons (SS_for (SE_upto (k := 40) (SE_var 0 rfl (by decide)) (fun _ _ => by with_unfolding_all rfl)) (Tgt_name (loc := false) 2 rfl (fun h => by cases h)) (SSs_cons (SS_assign 3 rfl (SE_if (SB_cmp (SE_var 2 rfl (by decide)) SE_int rfl) (SE_var 2 rfl (by decide)) (SE_bin SE_int (SE_var 2 rfl (by decide)))) (fun _ => rfl)) (SSs_cons (SS_meth (id := "list.append") 1 rfl (by decide) (.cons (SE_bin (SE_var 3 rfl (by decide)) SE_int) (fun _ _ => rfl) .nil) append_ok F.slot_list_append F.type_list_append rfl (fun _ => rfl) (fun _ => rfl) (fun _ => rfl) hint (fun _ => rfl)) (SSs_cons (SS_assign 3 rfl (SE_bin (SE_var 3 rfl (by decide)) SE_int) (fun _ => rfl)) (SSs_cons (SS_forR SE_int (fun _ _ => rfl) (Tgt_name (loc := false) 4 rfl (fun h => by cases h)) (SSs_cons (SS_if (SB_cmp (SE_var 3 rfl (by decide)) SE_int rfl) (SSs_cons (SS_meth (id := "list.append") 1 rfl (by decide) (.cons (SE_bin (SE_var 3 rfl (by decide)) SE_int) (fun _ _ => rfl) .nil) append_ok F.slot_list_append F.type_list_append rfl (fun _ => rfl) (fun _ => rfl) (fun _ => rfl) hint (fun _ => rfl)) (SSs_cons (SS_assign 3 rfl (SE_bin (SE_var 3 rfl (by decide)) SE_int) (fun _ => rfl)) SSs_nil)) SSs_nil) SSs_nil) (L.mgN rfl) rfl (fun _ _ => rfl)) SSs_nil)))) (fun _ _ => rfl)) (SSs_cons (SS_assign 1 rfl (SE_upto (k := 120) (SE_var 1 rfl (by decide)) (fun _ _ => by with_unfolding_all rfl)) (fun _ => rfl)) (SSs_cons (SS_meth (id := "list.reverse") 1 rfl (by decide) .nil reverse_ok F.slot_list_reverse F.type_list_reverse rfl (fun _ => rfl) (fun _ => rfl) (fun _ => rfl) hint (fun _ => rfl)) (SSs_cons (SS_ret (SE_var 1 rfl (by decide))) SSs_nil)))))


noncomputable def F_law_next : SF := (sSeq (sRet (eIf (tst2 (cmpD .NotEq) (eVar 0) (eList [])) (ePop 0) (eDat (.int 0)))) sNil)
noncomputable def fn_law_next : Fn := fnOfS 1 0 [] F_law_next
set_option maxHeartbeats 4000000 in
theorem spec_law_next {G : GC} {P : Params} (L : LawG G P) : FnSpec G 2 179 fn_law_next := by
  refine fnSpec_of (n := 1) (params := [("row" : Str)]) (locs := []) (k := 1) (dv := []) (da := []) ⟨⟨_, L.X 179 _ rfl, rfl⟩, L.code rfl, rfl, rfl, rfl, rfl, (fun s vals _ h => bind1 (fun _ => BindsTo.of_eq rfl) vals h), rfl, rfl, rfl, rfl⟩ (fun _ _ => .nil) (by decide) (by decide) ?_
  exact (SSs_cons (SS_ret (SE_if (SB_cmp (SE_var 0 rfl (by decide)) (SE_list .nil) rfl) (SE_pop 0 rfl (by decide) rfl (fun _ => rfl)) SE_int)) SSs_nil)


noncomputable def F_law_asked : SF := (sSeq (sIf (tst2 (cmpD .In) (eItem (eVar 0) (eDat (.int 0))) (eTuple [(eDat (.str "try")), (eDat (.str "retry")), (eDat (.str "trust"))])) (sSeq (sRet (eList [(eItem (eVar 0) (eDat (.int 1)))])) sNil) sNil) (sSeq (sIf (tst2 (cmpD .Eq) (eItem (eVar 0) (eDat (.int 0))) (eDat (.str "switch_on_term"))) (sSeq (sRet (eFn1 lstD (eOp1 (fromD 1) (eVar 0)))) sNil) sNil) (sSeq (sIf (tst2 (cmpD .In) (eItem (eVar 0) (eDat (.int 0))) (eTuple [(eDat (.str "switch_on_constant")), (eDat (.str "switch_on_structure"))])) (sSeq (sRet (eOp2 (binD .Add) (eComp 2 (eItem (eVar 0) (eDat (.int 1))) [] (tPair 0 1) (fun st => .ok true st) (eVar 1)) (eList [(eItem (eVar 0) (eDat (.int 2)))]))) sNil) sNil) (sSeq (sRet (eList [])) sNil))))
noncomputable def fn_law_asked : Fn := fnOfS 1 0 [] F_law_asked
set_option maxHeartbeats 4000000 in
theorem spec_law_asked {G : GC} {P : Params} (L : LawG G P) : FnSpec G 2 210 fn_law_asked := by
  refine fnSpec_of (n := 1) (params := [("ins" : Str)]) (locs := []) (k := 1) (dv := []) (da := []) ⟨⟨_, L.X 210 _ rfl, rfl⟩, L.code rfl, rfl, rfl, rfl, rfl, (fun s vals _ h => bind1 (fun _ => BindsTo.of_eq rfl) vals h), rfl, rfl, rfl, rfl⟩ (fun _ _ => .nil) (by decide) (by decide) ?_
  exact (SSs_cons (SS_if (SB_cmp (SE_item (SE_var 0 rfl (by decide)) SE_int (fun _ _ => by with_unfolding_all rfl)) (SE_tuple (.cons SE_str (fun _ _ => rfl) (.cons SE_str (fun _ _ => rfl) (.cons SE_str (fun _ _ => rfl) .nil)))) rfl) (SSs_cons (SS_ret (SE_list (.cons (SE_item (SE_var 0 rfl (by decide)) SE_int (fun _ _ => by with_unfolding_all rfl)) (fun _ _ => rfl) .nil))) SSs_nil) SSs_nil) (SSs_cons (SS_if (SB_cmp (SE_item (SE_var 0 rfl (by decide)) SE_int (fun _ _ => by with_unfolding_all rfl)) SE_str rfl) (SSs_cons (SS_ret (SE_listOf L (SE_from (k := 1) (SE_var 0 rfl (by decide)) (fun _ _ => by with_unfolding_all rfl)) (fun _ _ => rfl) rfl rfl)) SSs_nil) SSs_nil) (SSs_cons (SS_if (SB_cmp (SE_item (SE_var 0 rfl (by decide)) SE_int (fun _ _ => by with_unfolding_all rfl)) (SE_tuple (.cons SE_str (fun _ _ => rfl) (.cons SE_str (fun _ _ => rfl) .nil))) rfl) (SSs_cons (SS_ret (SE_bin (SE_comp (tn := [("key" : Str), ("label" : Str)]) (cn := []) (caps := []) (SE_item (SE_var 0 rfl (by decide)) SE_int (fun _ _ => by with_unfolding_all rfl)) ⟨rfl, by decide, by decide, by decide, rfl, by decide, by decide, by decide⟩ (Tgt_pair (loc := true) 0 1 rfl rfl (fun _ => ⟨rfl, rfl⟩)) .nil (SE_var 1 rfl (by decide)) (fun _ _ => rfl)) (SE_list (.cons (SE_item (SE_var 0 rfl (by decide)) SE_int (fun _ _ => by with_unfolding_all rfl)) (fun _ _ => rfl) .nil)))) SSs_nil) SSs_nil) (SSs_cons (SS_ret (SE_list .nil)) SSs_nil))))


noncomputable def F_is_register : SF := (sSeq (sRet (eBool (BoolOp.And == .And) [(eCall fn_is_pair [(eVar 0)]), (eOp2 (fun x y => (cmpD .In x y).map fun b => (.bool b, false)) (eItem (eVar 0) (eDat (.int 0))) (eVar 1)), (eCall fn_is_whole [(eItem (eVar 0) (eDat (.int 1)))]), (eOp2 (fun x y => (cmpD .GtE x y).map fun b => (.bool b, false)) (eItem (eVar 0) (eDat (.int 1))) (eDat (.int 1)))])) sNil)
noncomputable def fn_is_register : Fn := fnOfS 2 0 [] F_is_register
set_option maxHeartbeats 4000000 in
theorem spec_is_register {G : GC} {P : Params} (L : LawG G P) : FnSpec G 3 75 fn_is_register := by
  refine fnSpec_of (n := 2) (params := [("value" : Str), ("names" : Str)]) (locs := []) (k := 2) (dv := []) (da := []) ⟨⟨_, L.X 75 _ rfl, rfl⟩, L.code rfl, rfl, rfl, rfl, rfl, (fun s vals _ h => bind2 (fun _ _ => BindsTo.of_eq rfl) vals h), rfl, rfl, rfl, rfl⟩ (fun _ _ => .nil) (by decide) (by decide) ?_
  exact (SSs_cons (SS_ret (SE_boolop (.cons (SE_call (spec_is_pair L) (by decide) (.cons (SE_var 0 rfl (by decide)) (fun _ _ => rfl) .nil) (L.mg rfl) ⟨_, _, L.X 68 _ rfl, rfl⟩ rfl (by decide)) (.cons (SE_cmp (SE_item (SE_var 0 rfl (by decide)) SE_int (fun _ _ => by with_unfolding_all rfl)) (SE_var 1 rfl (by decide)) rfl) (.cons (SE_call (spec_is_whole L) (by decide) (.cons (SE_item (SE_var 0 rfl (by decide)) SE_int (fun _ _ => by with_unfolding_all rfl)) (fun _ _ => rfl) .nil) (L.mg rfl) ⟨_, _, L.X 61 _ rfl, rfl⟩ rfl (by decide)) (.cons (SE_cmp (SE_item (SE_var 0 rfl (by decide)) SE_int (fun _ _ => by with_unfolding_all rfl)) SE_int rfl) .nil)))))) SSs_nil)


noncomputable def F_is_constant : SF := (sSeq (sRet (eBool (BoolOp.And == .And) [(eCall fn_is_pair [(eVar 0)]), (eBool (BoolOp.Or == .And) [(eOp2 (fun x y => (cmpD .Eq x y).map fun b => (.bool b, false)) (eItem (eVar 0) (eDat (.int 0))) (eDat (.int 4))), (eOp2 (fun x y => (cmpD .Eq x y).map fun b => (.bool b, false)) (eItem (eVar 0) (eDat (.int 0))) (eDat (.int 5)))]), (eCall fn_is_whole [(eItem (eVar 0) (eDat (.int 1)))])])) sNil)
noncomputable def fn_is_constant : Fn := fnOfS 1 0 [] F_is_constant
set_option maxHeartbeats 4000000 in
theorem spec_is_constant {G : GC} {P : Params} (L : LawG G P) : FnSpec G 3 82 fn_is_constant := by
  refine fnSpec_of (n := 2) (params := [("value" : Str)]) (locs := []) (k := 1) (dv := []) (da := []) ⟨⟨_, L.X 82 _ rfl, rfl⟩, L.code rfl, rfl, rfl, rfl, rfl, (fun s vals _ h => bind1 (fun _ => BindsTo.of_eq rfl) vals h), rfl, rfl, rfl, rfl⟩ (fun _ _ => .nil) (by decide) (by decide) ?_
  exact (SSs_cons (SS_ret (SE_boolop (.cons (SE_call (spec_is_pair L) (by decide) (.cons (SE_var 0 rfl (by decide)) (fun _ _ => rfl) .nil) (L.mg rfl) ⟨_, _, L.X 68 _ rfl, rfl⟩ rfl (by decide)) (.cons (SE_boolop (.cons (SE_cmp (SE_item (SE_var 0 rfl (by decide)) SE_int (fun _ _ => by with_unfolding_all rfl)) (SE_glob (L.mg rfl) rfl (by decide)) rfl) (.cons (SE_cmp (SE_item (SE_var 0 rfl (by decide)) SE_int (fun _ _ => by with_unfolding_all rfl)) (SE_glob (L.mg rfl) rfl (by decide)) rfl) .nil))) (.cons (SE_call (spec_is_whole L) (by decide) (.cons (SE_item (SE_var 0 rfl (by decide)) SE_int (fun _ _ => by with_unfolding_all rfl)) (fun _ _ => rfl) .nil) (L.mg rfl) ⟨_, _, L.X 61 _ rfl, rfl⟩ rfl (by decide)) .nil))))) SSs_nil)


noncomputable def F_is_functor : SF := (sSeq (sRet (eBool (BoolOp.And == .And) [(eCall fn_is_whole [(eVar 0)]), (eOp2 (fun x y => (cmpD .GtE x y).map fun b => (.bool b, false)) (eVar 0) (eDat (.int 0)))])) sNil)
noncomputable def fn_is_functor : Fn := fnOfS 1 0 [] F_is_functor
set_option maxHeartbeats 4000000 in
theorem spec_is_functor {G : GC} {P : Params} (L : LawG G P) : FnSpec G 3 89 fn_is_functor := by
  refine fnSpec_of (n := 2) (params := [("value" : Str)]) (locs := []) (k := 1) (dv := []) (da := []) ⟨⟨_, L.X 89 _ rfl, rfl⟩, L.code rfl, rfl, rfl, rfl, rfl, (fun s vals _ h => bind1 (fun _ => BindsTo.of_eq rfl) vals h), rfl, rfl, rfl, rfl⟩ (fun _ _ => .nil) (by decide) (by decide) ?_
  exact (SSs_cons (SS_ret (SE_boolop (.cons (SE_call (spec_is_whole L) (by decide) (.cons (SE_var 0 rfl (by decide)) (fun _ _ => rfl) .nil) (L.mg rfl) ⟨_, _, L.X 61 _ rfl, rfl⟩ rfl (by decide)) (.cons (SE_cmp (SE_var 0 rfl (by decide)) SE_int rfl) .nil)))) SSs_nil)


noncomputable def F_is_target : SF := (sSeq (sIf (tNot (tOf (eCall fn_is_whole [(eVar 0)]))) (sSeq (sRet (eDat (.bool false))) sNil) sNil) (sSeq (sIf (tOf (eVar 1)) (sSeq (sRet (eOp2 (fun x y => (cmpD .GtE x y).map fun b => (.bool b, false)) (eVar 0) (eDat (.int 0)))) sNil) sNil) (sSeq (sRet (eOp2 (fun x y => (cmpD .GtE x y).map fun b => (.bool b, false)) (eVar 0) (eOp1 negD (eDat (.int 1))))) sNil)))
noncomputable def fn_is_target : Fn := fnOfS 2 0 [] F_is_target
set_option maxHeartbeats 4000000 in
theorem spec_is_target {G : GC} {P : Params} (L : LawG G P) : FnSpec G 3 96 fn_is_target := by
  refine fnSpec_of (n := 2) (params := [("value" : Str), ("linked" : Str)]) (locs := []) (k := 2) (dv := []) (da := []) ⟨⟨_, L.X 96 _ rfl, rfl⟩, L.code rfl, rfl, rfl, rfl, rfl, (fun s vals _ h => bind2 (fun _ _ => BindsTo.of_eq rfl) vals h), rfl, rfl, rfl, rfl⟩ (fun _ _ => .nil) (by decide) (by decide) ?_
  exact (SSs_cons (SS_if (SB_not (SB_of (SE_call (spec_is_whole L) (by decide) (.cons (SE_var 0 rfl (by decide)) (fun _ _ => rfl) .nil) (L.mg rfl) ⟨_, _, L.X 61 _ rfl, rfl⟩ rfl (by decide)) (fun _ _ => rfl))) (SSs_cons (SS_ret SE_bool) SSs_nil) SSs_nil) (SSs_cons (SS_if (SB_of (SE_var 1 rfl (by decide)) (fun _ _ => rfl)) (SSs_cons (SS_ret (SE_cmp (SE_var 0 rfl (by decide)) SE_int rfl)) SSs_nil) SSs_nil) (SSs_cons (SS_ret (SE_cmp (SE_var 0 rfl (by decide)) (SE_neg SE_int) rfl)) SSs_nil)))


noncomputable def F_law_label : SF := (sSeq (sRet (eItem (eList [(eDat (.int 0)), (eDat (.int 1)), (eDat (.int 2)), (eDat (.int 3)), (eOp1 negD (eDat (.int 1)))]) (eOp2 (binD .Mod) (eCall fn_law_next [(eVar 0)]) (eDat (.int 5))))) sNil)
noncomputable def fn_law_label : Fn := fnOfS 1 0 [] F_law_label
set_option maxHeartbeats 4000000 in
theorem spec_law_label {G : GC} {P : Params} (L : LawG G P) : FnSpec G 3 193 fn_law_label := by
  refine fnSpec_of (n := 2) (params := [("row" : Str)]) (locs := []) (k := 1) (dv := []) (da := []) ⟨⟨_, L.X 193 _ rfl, rfl⟩, L.code rfl, rfl, rfl, rfl, rfl, (fun s vals _ h => bind1 (fun _ => BindsTo.of_eq rfl) vals h), rfl, rfl, rfl, rfl⟩ (fun _ _ => .nil) (by decide) (by decide) ?_
  exact (SSs_cons (SS_ret (SE_item (SE_list (.cons SE_int (fun _ _ => rfl) (.cons SE_int (fun _ _ => rfl) (.cons SE_int (fun _ _ => rfl) (.cons SE_int (fun _ _ => rfl) (.cons (SE_neg SE_int) (fun _ _ => rfl) .nil)))))) (SE_bin (SE_call (spec_law_next L) (by decide) (.cons (SE_var 0 rfl (by decide)) (fun _ _ => rfl) .nil) (L.mg rfl) ⟨_, _, L.X 179 _ rfl, rfl⟩ rfl (by decide)) SE_int) (fun _ _ => by with_unfolding_all rfl))) SSs_nil)


noncomputable def F_is_key : SF := (sSeq (sIf (tst2 (cmpD .Eq) (eVar 1) (eDat (.str "T"))) (sSeq (sRet (eCall fn_is_constant [(eVar 0)])) sNil) sNil) (sSeq (sRet (eCall fn_is_functor [(eVar 0)])) sNil))
noncomputable def fn_is_key : Fn := fnOfS 2 0 [] F_is_key
set_option maxHeartbeats 4000000 in
theorem spec_is_key {G : GC} {P : Params} (L : LawG G P) : FnSpec G 4 103 fn_is_key := by
  refine fnSpec_of (n := 3) (params := [("value" : Str), ("kind" : Str)]) (locs := []) (k := 2) (dv := []) (da := []) ⟨⟨_, L.X 103 _ rfl, rfl⟩, L.code rfl, rfl, rfl, rfl, rfl, (fun s vals _ h => bind2 (fun _ _ => BindsTo.of_eq rfl) vals h), rfl, rfl, rfl, rfl⟩ (fun _ _ => .nil) (by decide) (by decide) ?_
  exact (SSs_cons (SS_if (SB_cmp (SE_var 1 rfl (by decide)) SE_str rfl) (SSs_cons (SS_ret (SE_call (spec_is_constant L) (by decide) (.cons (SE_var 0 rfl (by decide)) (fun _ _ => rfl) .nil) (L.mg rfl) ⟨_, _, L.X 82 _ rfl, rfl⟩ rfl (by decide))) SSs_nil) SSs_nil) (SSs_cons (SS_ret (SE_call (spec_is_functor L) (by decide) (.cons (SE_var 0 rfl (by decide)) (fun _ _ => rfl) .nil) (L.mg rfl) ⟨_, _, L.X 89 _ rfl, rfl⟩ rfl (by decide))) SSs_nil))


noncomputable def F_law_pairs : SF := (sSeq (sAssign 2 (eList [])) (sSeq (sForR (eOp2 (binD .Mod) (eCall fn_law_next [(eVar 0)]) (eDat (.int 4))) (tName 3) (sSeq (sAssign 4 (eOp2 (binD .Mod) (eCall fn_law_next [(eVar 0)]) (eDat (.int 9)))) (sSeq (sIf (tOf (eVar 1)) (sSeq (sAssign 4 (eTuple [(eItem (eList [(eDat (.int 4)), (eDat (.int 5))]) (eOp2 (binD .Mod) (eVar 4) (eDat (.int 2)))), (eItem (eList [(eDat (.int 0)), (eDat (.int 5)), (eIf (tst2 (cmpD .Eq) (eOp2 (binD .Mod) (eVar 4) (eDat (.int 2))) (eDat (.int 1))) (eOp1 negD (eDat (.int 7))) (eDat (.int 7))), (eDat (.int 1)), (eOp2 (binD .Pow) (eDat (.int 10)) (eDat (.int 20)))]) (eOp2 (binD .FloorDiv) (eVar 4) (eDat (.int 2))))])) sNil) sNil) (sSeq (sMeth 2 appendD [(eTuple [(eVar 4), (eCall fn_law_label [(eVar 0)])])]) sNil)))) (sSeq (sRet (eFn1 tupD (eVar 2))) sNil)))
noncomputable def fn_law_pairs : Fn := fnOfS 2 3 [] F_law_pairs
set_option maxHeartbeats 4000000 in
theorem spec_law_pairs {G : GC} {P : Params} (L : LawG G P) : FnSpec G 4 200 fn_law_pairs := by
  refine fnSpec_of (n := 3) (params := [("row" : Str), ("constants" : Str)]) (locs := [("pairs" : Str), ("turn" : Str), ("key" : Str)]) (k := 2) (dv := []) (da := []) ⟨⟨_, L.X 200 _ rfl, rfl⟩, L.code rfl, rfl, rfl, rfl, rfl, (fun s vals _ h => bind2 (fun _ _ => BindsTo.of_eq rfl) vals h), rfl, rfl, rfl, rfl⟩ (fun _ _ => .nil) (by decide) (by decide) ?_
  exact (SSs_cons (SS_assign 2 rfl (SE_list .nil) (fun _ => rfl)) (SSs_cons (SS_forR (SE_bin (SE_call (spec_law_next L) (by decide) (.cons (SE_var 0 rfl (by decide)) (fun _ _ => rfl) .nil) (L.mg rfl) ⟨_, _, L.X 179 _ rfl, rfl⟩ rfl (by decide)) SE_int) (fun _ _ => rfl) (Tgt_name (loc := false) 3 rfl (fun h => by cases h)) (SSs_cons (SS_assign 4 rfl (SE_bin (SE_call (spec_law_next L) (by decide) (.cons (SE_var 0 rfl (by decide)) (fun _ _ => rfl) .nil) (L.mg rfl) ⟨_, _, L.X 179 _ rfl, rfl⟩ rfl (by decide)) SE_int) (fun _ => rfl)) (SSs_cons (SS_if (SB_of (SE_var 1 rfl (by decide)) (fun _ _ => rfl)) (SSs_cons (SS_assign 4 rfl (SE_tuple (.cons (SE_item (SE_list (.cons (SE_glob (L.mg rfl) rfl (by decide)) (fun _ _ => rfl) (.cons (SE_glob (L.mg rfl) rfl (by decide)) (fun _ _ => rfl) .nil))) (SE_bin (SE_var 4 rfl (by decide)) SE_int) (fun _ _ => by with_unfolding_all rfl)) (fun _ _ => rfl) (.cons (SE_item (SE_list (.cons SE_int (fun _ _ => rfl) (.cons SE_int (fun _ _ => rfl) (.cons (SE_if (SB_cmp (SE_bin (SE_var 4 rfl (by decide)) SE_int) SE_int rfl) (SE_neg SE_int) SE_int) (fun _ _ => rfl) (.cons SE_int (fun _ _ => rfl) (.cons (SE_bin SE_int SE_int) (fun _ _ => rfl) .nil)))))) (SE_bin (SE_var 4 rfl (by decide)) SE_int) (fun _ _ => by with_unfolding_all rfl)) (fun _ _ => rfl) .nil))) (fun _ => rfl)) SSs_nil) SSs_nil) (SSs_cons (SS_meth (id := "list.append") 2 rfl (by decide) (.cons (SE_tuple (.cons (SE_var 4 rfl (by decide)) (fun _ _ => rfl) (.cons (SE_call (spec_law_label L) (by decide) (.cons (SE_var 0 rfl (by decide)) (fun _ _ => rfl) .nil) (L.mg rfl) ⟨_, _, L.X 193 _ rfl, rfl⟩ rfl (by decide)) (fun _ _ => rfl) .nil))) (fun _ _ => rfl) .nil) append_ok F.slot_list_append F.type_list_append rfl (fun _ => rfl) (fun _ => rfl) (fun _ => rfl) hint (fun _ => rfl)) SSs_nil))) (L.mgN rfl) rfl (fun _ _ => rfl)) (SSs_cons (SS_ret (SE_tupleOf L (SE_var 2 rfl (by decide)) (fun _ _ => rfl) rfl rfl)) SSs_nil)))


end Mine
namespace Mine
open PySem PySem.W PySem.Calls PyProof.Rows

noncomputable def F_law_bad : SF := (sSeq (sRet (eList [(eTuple [(eDat (.str "try")), (eDat (.int 0))]), (eTuple [(eDat (.str "call")), (eOp1 negD (eDat (.int 1))), (eDat (.int 0))]), (eTuple [(eDat (.str "get_list")), (eTuple [(eDat (.str "y")), (eDat (.int 1))])]), (eTuple [(eDat (.str "nothing"))]), (eTuple [(eDat (.str "get_constant")), (eTuple [(eDat (.int 0)), (eDat (.int 1))]), (eTuple [(eDat (.str "x")), (eDat (.int 1))])]), (eTuple [(eDat (.str "get_variable")), (eTuple [(eDat (.str "x")), (eDat (.int 0))]), (eTuple [(eDat (.str "x")), (eDat (.int 1))])]), (eTuple [(eDat (.str "switch_on_constant")), (eList []), (eOp1 negD (eDat (.int 1)))]), (eTuple [(eDat (.str "label")), (eOp1 negD (eDat (.int 1)))]), (eTuple []), (eTuple [(eDat (.str "put_unsafe_value")), (eTuple [(eDat (.str "x")), (eDat (.int 1))]), (eTuple [(eDat (.str "x")), (eDat (.int 2))])]), (eTuple [(eDat (.str "try")), (eOp1 negD (eDat (.int 2))), (eDat (.int 1))]), (eTuple [(eDat (.str "proceed")), (eDat (.int 0))]), (eTuple [(eDat (.str "mark")), (eTuple [(eDat (.str "z")), (eDat (.int 1))])]), (eTuple [(eDat (.str "switch_on_structure")), (eTuple [(eTuple [(eOp1 negD (eDat (.int 1))), (eOp1 negD (eDat (.int 1)))])]), (eOp1 negD (eDat (.int 1)))]), (eTuple [(eDat (.str "switch_on_constant")), (eTuple [(eTuple [(eTuple [(eDat (.int 0)), (eDat (.int 1))]), (eOp1 negD (eDat (.int 1)))])]), (eOp1 negD (eDat (.int 1)))]), (eTuple [(eDat (.str "execute")), (eDat .none)])])) sNil)
noncomputable def fn_law_bad : Fn := fnOfS 0 0 [] F_law_bad
set_option maxHeartbeats 4000000 in
theorem spec_law_bad {G : GC} {P : Params} (L : LawG G P) : FnSpec G 2 186 fn_law_bad := by
  refine fnSpec_of (n := 1) (params := []) (locs := []) (k := 0) (dv := []) (da := []) ⟨⟨_, L.X 186 _ rfl, rfl⟩, L.code rfl, rfl, rfl, rfl, rfl, (fun s vals _ h => bind0 (BindsTo.of_eq rfl) vals h), rfl, rfl, rfl, rfl⟩ (fun _ _ => .nil) (by decide) (by decide) ?_
  exact (SSs_cons (SS_ret (SE_list (.cons (SE_tuple (.cons SE_str (fun _ _ => rfl) (.cons SE_int (fun _ _ => rfl) .nil))) (fun _ _ => rfl) (.cons (SE_tuple (.cons SE_str (fun _ _ => rfl) (.cons (SE_neg SE_int) (fun _ _ => rfl) (.cons SE_int (fun _ _ => rfl) .nil)))) (fun _ _ => rfl) (.cons (SE_tuple (.cons SE_str (fun _ _ => rfl) (.cons (SE_tuple (.cons SE_str (fun _ _ => rfl) (.cons SE_int (fun _ _ => rfl) .nil))) (fun _ _ => rfl) .nil))) (fun _ _ => rfl) (.cons (SE_tuple (.cons SE_str (fun _ _ => rfl) .nil)) (fun _ _ => rfl) (.cons (SE_tuple (.cons SE_str (fun _ _ => rfl) (.cons (SE_tuple (.cons SE_int (fun _ _ => rfl) (.cons SE_int (fun _ _ => rfl) .nil))) (fun _ _ => rfl) (.cons (SE_tuple (.cons SE_str (fun _ _ => rfl) (.cons SE_int (fun _ _ => rfl) .nil))) (fun _ _ => rfl) .nil)))) (fun _ _ => rfl) (.cons (SE_tuple (.cons SE_str (fun _ _ => rfl) (.cons (SE_tuple (.cons SE_str (fun _ _ => rfl) (.cons SE_int (fun _ _ => rfl) .nil))) (fun _ _ => rfl) (.cons (SE_tuple (.cons SE_str (fun _ _ => rfl) (.cons SE_int (fun _ _ => rfl) .nil))) (fun _ _ => rfl) .nil)))) (fun _ _ => rfl) (.cons (SE_tuple (.cons SE_str (fun _ _ => rfl) (.cons (SE_list .nil) (fun _ _ => rfl) (.cons (SE_neg SE_int) (fun _ _ => rfl) .nil)))) (fun _ _ => rfl) (.cons (SE_tuple (.cons SE_str (fun _ _ => rfl) (.cons (SE_neg SE_int) (fun _ _ => rfl) .nil))) (fun _ _ => rfl) (.cons (SE_tuple .nil) (fun _ _ => rfl) (.cons (SE_tuple (.cons SE_str (fun _ _ => rfl) (.cons (SE_tuple (.cons SE_str (fun _ _ => rfl) (.cons SE_int (fun _ _ => rfl) .nil))) (fun _ _ => rfl) (.cons (SE_tuple (.cons SE_str (fun _ _ => rfl) (.cons SE_int (fun _ _ => rfl) .nil))) (fun _ _ => rfl) .nil)))) (fun _ _ => rfl) (.cons (SE_tuple (.cons SE_str (fun _ _ => rfl) (.cons (SE_neg SE_int) (fun _ _ => rfl) (.cons SE_int (fun _ _ => rfl) .nil)))) (fun _ _ => rfl) (.cons (SE_tuple (.cons SE_str (fun _ _ => rfl) (.cons SE_int (fun _ _ => rfl) .nil))) (fun _ _ => rfl) (.cons (SE_tuple (.cons SE_str (fun _ _ => rfl) (.cons (SE_tuple (.cons SE_str (fun _ _ => rfl) (.cons SE_int (fun _ _ => rfl) .nil))) (fun _ _ => rfl) .nil))) (fun _ _ => rfl) (.cons (SE_tuple (.cons SE_str (fun _ _ => rfl) (.cons (SE_tuple (.cons (SE_tuple (.cons (SE_neg SE_int) (fun _ _ => rfl) (.cons (SE_neg SE_int) (fun _ _ => rfl) .nil))) (fun _ _ => rfl) .nil)) (fun _ _ => rfl) (.cons (SE_neg SE_int) (fun _ _ => rfl) .nil)))) (fun _ _ => rfl) (.cons (SE_tuple (.cons SE_str (fun _ _ => rfl) (.cons (SE_tuple (.cons (SE_tuple (.cons (SE_tuple (.cons SE_int (fun _ _ => rfl) (.cons SE_int (fun _ _ => rfl) .nil))) (fun _ _ => rfl) (.cons (SE_neg SE_int) (fun _ _ => rfl) .nil))) (fun _ _ => rfl) .nil)) (fun _ _ => rfl) (.cons (SE_neg SE_int) (fun _ _ => rfl) .nil)))) (fun _ _ => rfl) (.cons (SE_tuple (.cons SE_str (fun _ _ => rfl) (.cons SE_none (fun _ _ => rfl) .nil))) (fun _ _ => rfl) .nil)))))))))))))))))) SSs_nil)


end Mine
namespace Mine
open PySem PySem.W PySem.Calls PyProof.Rows

noncomputable def F_resolve_label : SF := (sSeq (sIf (tst2 (cmpD .Eq) (eVar 0) (eOp1 negD (eDat (.int 1)))) (sSeq (sRet (eDat (.int 2))) sNil) sNil) (sSeq (sIf (tst2 (cmpD .NotIn) (eVar 0) (eVar 1)) (sSeq (sRaise (evJoin Str.empty [(eDat (.str "label ")), (eOp1 fmtD (eVar 0)), (eDat (.str " is unknown"))])) sNil) sNil) (sSeq (sIf (tst2 (cmpD .GtE) (eItem (eVar 1) (eVar 0)) (eVar 2)) (sSeq (sRaise (evJoin Str.empty [(eDat (.str "label ")), (eOp1 fmtD (eVar 0)), (eDat (.str " names no row"))])) sNil) sNil) (sSeq (sRet (eItem (eVar 1) (eVar 0))) sNil))))
noncomputable def fn_resolve_label : Fn := fnOfS 3 0 [] F_resolve_label
set_option maxHeartbeats 4000000 in
theorem spec_resolve_label {G : GC} {P : Params} (L : LawG G P) : FnSpec G 2 145 fn_resolve_label := by
  refine fnSpec_of (n := 1) (params := [("label" : Str), ("addresses" : Str), ("end" : Str)]) (locs := []) (k := 3) (dv := []) (da := []) ⟨⟨_, L.X 145 _ rfl, rfl⟩, L.code rfl, rfl, rfl, rfl, rfl, (fun s vals _ h => bind3 (fun _ _ _ => BindsTo.of_eq rfl) vals h), rfl, rfl, rfl, rfl⟩ (fun _ _ => .nil) (by decide) (by decide) ?_
  exact (SSs_cons (SS_if (SB_cmp (SE_var 0 rfl (by decide)) (SE_neg SE_int) rfl) (SSs_cons (SS_ret (SE_glob (L.mg rfl) rfl (by decide))) SSs_nil) SSs_nil) (SSs_cons (SS_if (SB_cmp (SE_var 0 rfl (by decide)) (SE_var 1 rfl (by decide)) rfl) (SSs_cons (SS_raise (excAt L) (SE_join (.cons SE_str (.cons (SE_fmt (SE_var 0 rfl (by decide))) (.cons SE_str .nil)))) (fun _ _ => rfl) (by rw [L.C]; exact L.mg rfl) rfl (by decide)) SSs_nil) SSs_nil) (SSs_cons (SS_if (SB_cmp (SE_item (SE_var 1 rfl (by decide)) (SE_var 0 rfl (by decide)) (fun _ _ => by with_unfolding_all rfl)) (SE_var 2 rfl (by decide)) rfl) (SSs_cons (SS_raise (excAt L) (SE_join (.cons SE_str (.cons (SE_fmt (SE_var 0 rfl (by decide))) (.cons SE_str .nil)))) (fun _ _ => rfl) (by rw [L.C]; exact L.mg rfl) rfl (by decide)) SSs_nil) SSs_nil) (SSs_cons (SS_ret (SE_item (SE_var 1 rfl (by decide)) (SE_var 0 rfl (by decide)) (fun _ _ => by with_unfolding_all rfl))) SSs_nil))))


noncomputable def F_label_addresses : SF := (sSeq (sAssign 2 (eDisp (some []))) (sSeq (sAssign 3 (eVar 1)) (sSeq (sFor (eVar 0) (tName 4) (sSeq (sIf (tOf (eCall fn_is_label_row [(eVar 4)])) (sSeq (sIf (tOr [(tst2 (cmpD .NotEq) (eFn1 (fun x => (lenD x).map fun i => (.int i, false)) (eVar 4)) (eDat (.int 2))), (tNot (tOf (eCall fn_is_whole [(eItem (eVar 4) (eDat (.int 1)))]))), (tst2 (cmpD .Lt) (eItem (eVar 4) (eDat (.int 1))) (eDat (.int 0)))]) (sSeq (sRaise (eDat (.str "wrong label"))) sNil) sNil) (sSeq (sIf (tst2 (cmpD .In) (eItem (eVar 4) (eDat (.int 1))) (eVar 2)) (sSeq (sRaise (evJoin Str.empty [(eDat (.str "label ")), (eOp1 fmtD (eItem (eVar 4) (eDat (.int 1)))), (eDat (.str " stands twice"))])) sNil) sNil) (sSeq (sSet 2 (eItem (eVar 4) (eDat (.int 1))) (eVar 3)) sNil))) (sSeq (sAug 3 (eDat (.int 1))) sNil)) sNil)) (sSeq (sRet (eVar 2)) sNil))))
noncomputable def fn_label_addresses : Fn := fnOfS 2 3 [] F_label_addresses
set_option maxHeartbeats 4000000 in
theorem spec_label_addresses {G : GC} {P : Params} (L : LawG G P) : FnSpec G 3 138 fn_label_addresses := by
  refine fnSpec_of (n := 2) (params := [("block" : Str), ("base" : Str)]) (locs := [("addresses" : Str), ("address" : Str), ("row" : Str)]) (k := 2) (dv := []) (da := []) ⟨⟨_, L.X 138 _ rfl, rfl⟩, L.code rfl, rfl, rfl, rfl, rfl, (fun s vals _ h => bind2 (fun _ _ => BindsTo.of_eq rfl) vals h), rfl, rfl, rfl, rfl⟩ (fun _ _ => .nil) (by decide) (by decide) ?_
  exact (SSs_cons (SS_assign 2 rfl SE_dict0 (fun _ => rfl)) (SSs_cons (SS_assign 3 rfl (SE_var 1 rfl (by decide)) (fun _ => rfl)) (SSs_cons (SS_for (SE_var 0 rfl (by decide)) (Tgt_name (loc := false) 4 rfl (fun h => by cases h)) (SSs_cons (SS_if (SB_of (SE_call (spec_is_label_row L) (by decide) (.cons (SE_var 4 rfl (by decide)) (fun _ _ => rfl) .nil) (L.mg rfl) ⟨_, _, L.X 131 _ rfl, rfl⟩ rfl (by decide)) (fun _ _ => rfl)) (SSs_cons (SS_if (SB_or (.cons (SB_cmp (SE_len L (SE_var 4 rfl (by decide)) (fun _ _ => rfl) rfl rfl) SE_int rfl) (.cons (SB_not (SB_of (SE_call (spec_is_whole L) (by decide) (.cons (SE_item (SE_var 4 rfl (by decide)) SE_int (fun _ _ => by with_unfolding_all rfl)) (fun _ _ => rfl) .nil) (L.mg rfl) ⟨_, _, L.X 61 _ rfl, rfl⟩ rfl (by decide)) (fun _ _ => rfl))) (.cons (SB_cmp (SE_item (SE_var 4 rfl (by decide)) SE_int (fun _ _ => by with_unfolding_all rfl)) SE_int rfl) .nil)))) (SSs_cons (SS_raise (excAt L) SE_str (fun _ _ => rfl) (by rw [L.C]; exact L.mg rfl) rfl (by decide)) SSs_nil) SSs_nil) (SSs_cons (SS_if (SB_cmp (SE_item (SE_var 4 rfl (by decide)) SE_int (fun _ _ => by with_unfolding_all rfl)) (SE_var 2 rfl (by decide)) rfl) (SSs_cons (SS_raise (excAt L) (SE_join (.cons SE_str (.cons (SE_fmt (SE_item (SE_var 4 rfl (by decide)) SE_int (fun _ _ => by with_unfolding_all rfl))) (.cons SE_str .nil)))) (fun _ _ => rfl) (by rw [L.C]; exact L.mg rfl) rfl (by decide)) SSs_nil) SSs_nil) (SSs_cons (SS_set 2 rfl (by decide) (SE_item (SE_var 4 rfl (by decide)) SE_int (fun _ _ => by with_unfolding_all rfl)) (SE_var 3 rfl (by decide)) (fun _ => rfl)) SSs_nil))) (SSs_cons (SS_aug 3 rfl SE_int) SSs_nil)) SSs_nil) (fun _ _ => rfl)) (SSs_cons (SS_ret (SE_var 2 rfl (by decide))) SSs_nil))))


noncomputable def F_resolve_table : SF := (sSeq (sAssign 3 (eDisp (some []))) (sSeq (sFor (eVar 0) (tName 4) (sSeq (sIf (tst2 (cmpD .In) (eItem (eVar 4) (eDat (.int 0))) (eVar 3)) (sSeq (sRaise (eDat (.str "a key stands twice in a table"))) sNil) sNil) (sSeq (sSet 3 (eItem (eVar 4) (eDat (.int 0))) (eCall fn_resolve_label [(eItem (eVar 4) (eDat (.int 1))), (eVar 1), (eVar 2)])) sNil))) (sSeq (sRet (eVar 3)) sNil)))
noncomputable def fn_resolve_table : Fn := fnOfS 3 2 [] F_resolve_table
set_option maxHeartbeats 4000000 in
theorem spec_resolve_table {G : GC} {P : Params} (L : LawG G P) : FnSpec G 3 152 fn_resolve_table := by
  refine fnSpec_of (n := 2) (params := [("pairs" : Str), ("addresses" : Str), ("end" : Str)]) (locs := [("table" : Str), ("pair" : Str)]) (k := 3) (dv := []) (da := []) ⟨⟨_, L.X 152 _ rfl, rfl⟩, L.code rfl, rfl, rfl, rfl, rfl, (fun s vals _ h => bind3 (fun _ _ _ => BindsTo.of_eq rfl) vals h), rfl, rfl, rfl, rfl⟩ (fun _ _ => .nil) (by decide) (by decide) ?_
  exact (SSs_cons (SS_assign 3 rfl SE_dict0 (fun _ => rfl)) (SSs_cons (SS_for (SE_var 0 rfl (by decide)) (Tgt_name (loc := false) 4 rfl (fun h => by cases h)) (SSs_cons (SS_if (SB_cmp (SE_item (SE_var 4 rfl (by decide)) SE_int (fun _ _ => by with_unfolding_all rfl)) (SE_var 3 rfl (by decide)) rfl) (SSs_cons (SS_raise (excAt L) SE_str (fun _ _ => rfl) (by rw [L.C]; exact L.mg rfl) rfl (by decide)) SSs_nil) SSs_nil) (SSs_cons (SS_set 3 rfl (by decide) (SE_item (SE_var 4 rfl (by decide)) SE_int (fun _ _ => by with_unfolding_all rfl)) (SE_call (spec_resolve_label L) (by decide) (.cons (SE_item (SE_var 4 rfl (by decide)) SE_int (fun _ _ => by with_unfolding_all rfl)) (fun _ _ => rfl) (.cons (SE_var 1 rfl (by decide)) (fun _ _ => rfl) (.cons (SE_var 2 rfl (by decide)) (fun _ _ => rfl) .nil))) (L.mg rfl) ⟨_, _, L.X 145 _ rfl, rfl⟩ rfl (by decide)) (fun _ => rfl)) SSs_nil)) (fun _ _ => rfl)) (SSs_cons (SS_ret (SE_var 3 rfl (by decide))) SSs_nil)))


noncomputable def F_is_table : SF := (sSeq (sIf (tOf (eVar 2)) sStuck sNil) (sSeq (sIf (tNot (tOf (eIsi .tuple (eVar 0)))) (sSeq (sRet (eDat (.bool false))) sNil) sNil) (sSeq (sFor (eVar 0) (tName 4) (sSeq (sIf (tOr [(tNot (tOf (eCall fn_is_pair [(eVar 4)]))), (tNot (tOf (eCall fn_is_key [(eItem (eVar 4) (eDat (.int 0))), (eVar 1)]))), (tNot (tOf (eCall fn_is_target [(eItem (eVar 4) (eDat (.int 1))), (eDat (.bool false))])))]) (sSeq (sRet (eDat (.bool false))) sNil) sNil) sNil)) (sSeq (sRet (eDat (.bool true))) sNil))))
noncomputable def fn_is_table : Fn := fnOfS 3 2 [] F_is_table
set_option maxHeartbeats 4000000 in
theorem spec_is_table {G : GC} {P : Params} (L : LawG G P) : FnSpec G 5 110 fn_is_table := by
  refine fnSpec_of (n := 4) (params := [("value" : Str), ("kind" : Str), ("linked" : Str)]) (locs := [("key" : Str), ("pair" : Str)]) (k := 3) (dv := []) (da := []) ⟨⟨_, L.X 110 _ rfl, rfl⟩, L.code rfl, rfl, rfl, rfl, rfl, (fun s vals _ h => bind3 (fun _ _ _ => BindsTo.of_eq rfl) vals h), rfl, rfl, rfl, rfl⟩ (fun _ _ => .nil) (by decide) (by decide) ?_
  exact (SSs_cons (SS_if (SB_of (SE_var 2 rfl (by decide)) (fun _ _ => rfl)) SSs_stuck SSs_nil) (SSs_cons (SS_if (SB_not (SB_of (SE_isT (T := .tuple) L (SE_var 0 rfl (by decide)) (fun _ _ => rfl) rfl (by decide) rfl rfl rfl rfl (by decide)) (fun _ _ => rfl))) (SSs_cons (SS_ret SE_bool) SSs_nil) SSs_nil) (SSs_cons (SS_for (SE_var 0 rfl (by decide)) (Tgt_name (loc := false) 4 rfl (fun h => by cases h)) (SSs_cons (SS_if (SB_or (.cons (SB_not (SB_of (SE_call (spec_is_pair L) (by decide) (.cons (SE_var 4 rfl (by decide)) (fun _ _ => rfl) .nil) (L.mg rfl) ⟨_, _, L.X 68 _ rfl, rfl⟩ rfl (by decide)) (fun _ _ => rfl))) (.cons (SB_not (SB_of (SE_call (spec_is_key L) (by decide) (.cons (SE_item (SE_var 4 rfl (by decide)) SE_int (fun _ _ => by with_unfolding_all rfl)) (fun _ _ => rfl) (.cons (SE_var 1 rfl (by decide)) (fun _ _ => rfl) .nil)) (L.mg rfl) ⟨_, _, L.X 103 _ rfl, rfl⟩ rfl (by decide)) (fun _ _ => rfl))) (.cons (SB_not (SB_of (SE_call (spec_is_target L) (by decide) (.cons (SE_item (SE_var 4 rfl (by decide)) SE_int (fun _ _ => by with_unfolding_all rfl)) (fun _ _ => rfl) (.cons SE_bool (fun _ _ => rfl) .nil)) (L.mg rfl) ⟨_, _, L.X 96 _ rfl, rfl⟩ rfl (by decide)) (fun _ _ => rfl))) .nil)))) (SSs_cons (SS_ret SE_bool) SSs_nil) SSs_nil) SSs_nil) (fun _ _ => rfl)) (SSs_cons (SS_ret SE_bool) SSs_nil))))


noncomputable def F_is_operand : SF := (sSeq (sIf (tst2 (cmpD .Eq) (eVar 1) (eDat (.str "R"))) (sSeq (sRet (eCall fn_is_register [(eVar 0), (eTuple [(eDat (.str "x")), (eDat (.str "y"))])])) sNil) sNil) (sSeq (sIf (tst2 (cmpD .Eq) (eVar 1) (eDat (.str "X"))) (sSeq (sRet (eCall fn_is_register [(eVar 0), (eTuple [(eDat (.str "x"))])])) sNil) sNil) (sSeq (sIf (tst2 (cmpD .Eq) (eVar 1) (eDat (.str "Y"))) (sSeq (sRet (eCall fn_is_register [(eVar 0), (eTuple [(eDat (.str "y"))])])) sNil) sNil) (sSeq (sIf (tst2 (cmpD .Eq) (eVar 1) (eDat (.str "C"))) (sSeq (sRet (eCall fn_is_constant [(eVar 0)])) sNil) sNil) (sSeq (sIf (tOr [(tst2 (cmpD .Eq) (eVar 1) (eDat (.str "F"))), (tst2 (cmpD .Eq) (eVar 1) (eDat (.str "N")))]) (sSeq (sRet (eCall fn_is_functor [(eVar 0)])) sNil) sNil) (sSeq (sIf (tst2 (cmpD .Eq) (eVar 1) (eDat (.str "L"))) (sSeq (sRet (eCall fn_is_target [(eVar 0), (eVar 2)])) sNil) sNil) (sSeq (sRet (eCall fn_is_table [(eVar 0), (eVar 1), (eVar 2)])) sNil)))))))
noncomputable def fn_is_operand : Fn := fnOfS 3 0 [] F_is_operand
set_option maxHeartbeats 4000000 in
theorem spec_is_operand {G : GC} {P : Params} (L : LawG G P) : FnSpec G 6 117 fn_is_operand := by
  refine fnSpec_of (n := 5) (params := [("value" : Str), ("kind" : Str), ("linked" : Str)]) (locs := []) (k := 3) (dv := []) (da := []) ⟨⟨_, L.X 117 _ rfl, rfl⟩, L.code rfl, rfl, rfl, rfl, rfl, (fun s vals _ h => bind3 (fun _ _ _ => BindsTo.of_eq rfl) vals h), rfl, rfl, rfl, rfl⟩ (fun _ _ => .nil) (by decide) (by decide) ?_
  exact (SSs_cons (SS_if (SB_cmp (SE_var 1 rfl (by decide)) SE_str rfl) (SSs_cons (SS_ret (SE_call (spec_is_register L) (by decide) (.cons (SE_var 0 rfl (by decide)) (fun _ _ => rfl) (.cons (SE_tuple (.cons SE_str (fun _ _ => rfl) (.cons SE_str (fun _ _ => rfl) .nil))) (fun _ _ => rfl) .nil)) (L.mg rfl) ⟨_, _, L.X 75 _ rfl, rfl⟩ rfl (by decide))) SSs_nil) SSs_nil) (SSs_cons (SS_if (SB_cmp (SE_var 1 rfl (by decide)) SE_str rfl) (SSs_cons (SS_ret (SE_call (spec_is_register L) (by decide) (.cons (SE_var 0 rfl (by decide)) (fun _ _ => rfl) (.cons (SE_tuple (.cons SE_str (fun _ _ => rfl) .nil)) (fun _ _ => rfl) .nil)) (L.mg rfl) ⟨_, _, L.X 75 _ rfl, rfl⟩ rfl (by decide))) SSs_nil) SSs_nil) (SSs_cons (SS_if (SB_cmp (SE_var 1 rfl (by decide)) SE_str rfl) (SSs_cons (SS_ret (SE_call (spec_is_register L) (by decide) (.cons (SE_var 0 rfl (by decide)) (fun _ _ => rfl) (.cons (SE_tuple (.cons SE_str (fun _ _ => rfl) .nil)) (fun _ _ => rfl) .nil)) (L.mg rfl) ⟨_, _, L.X 75 _ rfl, rfl⟩ rfl (by decide))) SSs_nil) SSs_nil) (SSs_cons (SS_if (SB_cmp (SE_var 1 rfl (by decide)) SE_str rfl) (SSs_cons (SS_ret (SE_call (spec_is_constant L) (by decide) (.cons (SE_var 0 rfl (by decide)) (fun _ _ => rfl) .nil) (L.mg rfl) ⟨_, _, L.X 82 _ rfl, rfl⟩ rfl (by decide))) SSs_nil) SSs_nil) (SSs_cons (SS_if (SB_or (.cons (SB_cmp (SE_var 1 rfl (by decide)) SE_str rfl) (.cons (SB_cmp (SE_var 1 rfl (by decide)) SE_str rfl) .nil))) (SSs_cons (SS_ret (SE_call (spec_is_functor L) (by decide) (.cons (SE_var 0 rfl (by decide)) (fun _ _ => rfl) .nil) (L.mg rfl) ⟨_, _, L.X 89 _ rfl, rfl⟩ rfl (by decide))) SSs_nil) SSs_nil) (SSs_cons (SS_if (SB_cmp (SE_var 1 rfl (by decide)) SE_str rfl) (SSs_cons (SS_ret (SE_call (spec_is_target L) (by decide) (.cons (SE_var 0 rfl (by decide)) (fun _ _ => rfl) (.cons (SE_var 2 rfl (by decide)) (fun _ _ => rfl) .nil)) (L.mg rfl) ⟨_, _, L.X 96 _ rfl, rfl⟩ rfl (by decide))) SSs_nil) SSs_nil) (SSs_cons (SS_ret (SE_call (spec_is_table L) (by decide) (.cons (SE_var 0 rfl (by decide)) (fun _ _ => rfl) (.cons (SE_var 1 rfl (by decide)) (fun _ _ => rfl) (.cons (SE_var 2 rfl (by decide)) (fun _ _ => rfl) .nil))) (L.mg rfl) ⟨_, _, L.X 110 _ rfl, rfl⟩ rfl (by decide))) SSs_nil)))))))


noncomputable def F_check_row : SF := (sSeq (sIf (tOr [(tNot (tOf (eIsi .tuple (eVar 1)))), (tst2 (cmpD .Eq) (eFn1 (fun x => (lenD x).map fun i => (.int i, false)) (eVar 1)) (eDat (.int 0))), (tNot (tOf (eIsi .str (eItem (eVar 1) (eDat (.int 0))))))]) (sSeq (sRaise (eDat (.str "not an instruction"))) sNil) sNil) (sSeq (sAssign 3 (eItem (eVar 1) (eDat (.int 0)))) (sSeq (sIf (tst2 (cmpD .NotIn) (eVar 3) (eVar 0)) (sSeq (sRaise (eOp2 (binD .Add) (eDat (.str "unknown instruction: ")) (eVar 3))) sNil) sNil) (sSeq (sAssign 4 (eItem (eVar 0) (eVar 3))) (sSeq (sIf (tst2 (cmpD .NotEq) (eFn1 (fun x => (lenD x).map fun i => (.int i, false)) (eVar 1)) (eOp2 (binD .Add) (eFn1 (fun x => (lenD x).map fun i => (.int i, false)) (eVar 4)) (eDat (.int 1)))) (sSeq (sRaise (eOp2 (binD .Add) (eDat (.str "wrong number of operands: ")) (eVar 3))) sNil) sNil) (sSeq (sForR (eFn1 (fun x => (lenD x).map fun i => (.int i, false)) (eVar 4)) (tName 5) (sSeq (sIf (tNot (tOf (eCall fn_is_operand [(eItem (eVar 1) (eOp2 (binD .Add) (eVar 5) (eDat (.int 1)))), (eItem (eVar 4) (eVar 5)), (eVar 2)]))) (sSeq (sRaise (evJoin Str.empty [(eDat (.str "wrong operand ")), (eOp1 fmtD (eOp2 (binD .Add) (eVar 5) (eDat (.int 1)))), (eDat (.str " of ")), (eOp1 fmtD (eVar 3))])) sNil) sNil) sNil)) sNil))))))
noncomputable def fn_check_row : Fn := fnOfS 3 3 [] F_check_row
set_option maxHeartbeats 4000000 in
theorem spec_check_row {G : GC} {P : Params} (L : LawG G P) : FnSpec G 7 124 fn_check_row := by
  refine fnSpec_of (n := 6) (params := [("table" : Str), ("ins" : Str), ("linked" : Str)]) (locs := [("name" : Str), ("kinds" : Str), ("place" : Str)]) (k := 3) (dv := []) (da := []) ⟨⟨_, L.X 124 _ rfl, rfl⟩, L.code rfl, rfl, rfl, rfl, rfl, (fun s vals _ h => bind3 (fun _ _ _ => BindsTo.of_eq rfl) vals h), rfl, rfl, rfl, rfl⟩ (fun _ _ => .nil) (by decide) (by decide) ?_
  exact (SSs_cons (SS_if (SB_or (.cons (SB_not (SB_of (SE_isT (T := .tuple) L (SE_var 1 rfl (by decide)) (fun _ _ => rfl) rfl (by decide) rfl rfl rfl rfl (by decide)) (fun _ _ => rfl))) (.cons (SB_cmp (SE_len L (SE_var 1 rfl (by decide)) (fun _ _ => rfl) rfl rfl) SE_int rfl) (.cons (SB_not (SB_of (SE_isT (T := .str) L (SE_item (SE_var 1 rfl (by decide)) SE_int (fun _ _ => by with_unfolding_all rfl)) (fun _ _ => rfl) rfl (by decide) rfl rfl rfl rfl (by decide)) (fun _ _ => rfl))) .nil)))) (SSs_cons (SS_raise (excAt L) SE_str (fun _ _ => rfl) (by rw [L.C]; exact L.mg rfl) rfl (by decide)) SSs_nil) SSs_nil) (SSs_cons (SS_assign 3 rfl (SE_item (SE_var 1 rfl (by decide)) SE_int (fun _ _ => by with_unfolding_all rfl)) (fun _ => rfl)) (SSs_cons (SS_if (SB_cmp (SE_var 3 rfl (by decide)) (SE_var 0 rfl (by decide)) rfl) (SSs_cons (SS_raise (excAt L) (SE_bin SE_str (SE_var 3 rfl (by decide))) (fun _ _ => rfl) (by rw [L.C]; exact L.mg rfl) rfl (by decide)) SSs_nil) SSs_nil) (SSs_cons (SS_assign 4 rfl (SE_item (SE_var 0 rfl (by decide)) (SE_var 3 rfl (by decide)) (fun _ _ => by with_unfolding_all rfl)) (fun _ => rfl)) (SSs_cons (SS_if (SB_cmp (SE_len L (SE_var 1 rfl (by decide)) (fun _ _ => rfl) rfl rfl) (SE_bin (SE_len L (SE_var 4 rfl (by decide)) (fun _ _ => rfl) rfl rfl) SE_int) rfl) (SSs_cons (SS_raise (excAt L) (SE_bin SE_str (SE_var 3 rfl (by decide))) (fun _ _ => rfl) (by rw [L.C]; exact L.mg rfl) rfl (by decide)) SSs_nil) SSs_nil) (SSs_cons (SS_forR (SE_len L (SE_var 4 rfl (by decide)) (fun _ _ => rfl) rfl rfl) (fun _ _ => rfl) (Tgt_name (loc := false) 5 rfl (fun h => by cases h)) (SSs_cons (SS_if (SB_not (SB_of (SE_call (spec_is_operand L) (by decide) (.cons (SE_item (SE_var 1 rfl (by decide)) (SE_bin (SE_var 5 rfl (by decide)) SE_int) (fun _ _ => by with_unfolding_all rfl)) (fun _ _ => rfl) (.cons (SE_item (SE_var 4 rfl (by decide)) (SE_var 5 rfl (by decide)) (fun _ _ => by with_unfolding_all rfl)) (fun _ _ => rfl) (.cons (SE_var 2 rfl (by decide)) (fun _ _ => rfl) .nil))) (L.mg rfl) ⟨_, _, L.X 117 _ rfl, rfl⟩ rfl (by decide)) (fun _ _ => rfl))) (SSs_cons (SS_raise (excAt L) (SE_join (.cons SE_str (.cons (SE_fmt (SE_bin (SE_var 5 rfl (by decide)) SE_int)) (.cons SE_str (.cons (SE_fmt (SE_var 3 rfl (by decide))) .nil))))) (fun _ _ => rfl) (by rw [L.C]; exact L.mg rfl) rfl (by decide)) SSs_nil) SSs_nil) SSs_nil) (L.mgN rfl) rfl (fun _ _ => rfl)) SSs_nil))))))


noncomputable def F_resolve_instruction : SF := (sSeq (sExpr (eCall fn_check_row [(eVar 0), (eVar 1), (eDat (.bool false))])) (sSeq (sAssign 4 (eItem (eVar 0) (eItem (eVar 1) (eDat (.int 0))))) (sSeq (sAssign 5 (eList [(eItem (eVar 1) (eDat (.int 0)))])) (sSeq (sForR (eFn1 (fun x => (lenD x).map fun i => (.int i, false)) (eVar 4)) (tName 6) (sSeq (sAssign 7 (eItem (eVar 1) (eOp2 (binD .Add) (eVar 6) (eDat (.int 1))))) (sSeq (sIf (tst2 (cmpD .Eq) (eItem (eVar 4) (eVar 6)) (eDat (.str "L"))) (sSeq (sAssign 7 (eCall fn_resolve_label [(eVar 7), (eVar 2), (eVar 3)])) sNil) (sSeq (sIf (tOr [(tst2 (cmpD .Eq) (eItem (eVar 4) (eVar 6)) (eDat (.str "T"))), (tst2 (cmpD .Eq) (eItem (eVar 4) (eVar 6)) (eDat (.str "U")))]) (sSeq (sAssign 7 (eCall fn_resolve_table [(eVar 7), (eVar 2), (eVar 3)])) sNil) sNil) sNil)) (sSeq (sMeth 5 appendD [(eVar 7)]) sNil)))) (sSeq (sRet (eFn1 tupD (eVar 5))) sNil)))))
noncomputable def fn_resolve_instruction : Fn := fnOfS 4 4 [] F_resolve_instruction
set_option maxHeartbeats 4000000 in
theorem spec_resolve_instruction {G : GC} {P : Params} (L : LawG G P) : FnSpec G 8 159 fn_resolve_instruction := by
  refine fnSpec_of (n := 7) (params := [("table" : Str), ("ins" : Str), ("addresses" : Str), ("end" : Str)]) (locs := [("kinds" : Str), ("parts" : Str), ("place" : Str), ("value" : Str)]) (k := 4) (dv := []) (da := []) ⟨⟨_, L.X 159 _ rfl, rfl⟩, L.code rfl, rfl, rfl, rfl, rfl, (fun s vals _ h => bind4 (fun _ _ _ _ => BindsTo.of_eq rfl) vals h), rfl, rfl, rfl, rfl⟩ (fun _ _ => .nil) (by decide) (by decide) ?_
  exact (SSs_cons (SS_expr (SE_call (spec_check_row L) (by decide) (.cons (SE_var 0 rfl (by decide)) (fun _ _ => rfl) (.cons (SE_var 1 rfl (by decide)) (fun _ _ => rfl) (.cons SE_bool (fun _ _ => rfl) .nil))) (L.mg rfl) ⟨_, _, L.X 124 _ rfl, rfl⟩ rfl (by decide)) hint (fun _ => rfl)) (SSs_cons (SS_assign 4 rfl (SE_item (SE_var 0 rfl (by decide)) (SE_item (SE_var 1 rfl (by decide)) SE_int (fun _ _ => by with_unfolding_all rfl)) (fun _ _ => by with_unfolding_all rfl)) (fun _ => rfl)) (SSs_cons (SS_assign 5 rfl (SE_list (.cons (SE_item (SE_var 1 rfl (by decide)) SE_int (fun _ _ => by with_unfolding_all rfl)) (fun _ _ => rfl) .nil)) (fun _ => rfl)) (SSs_cons (SS_forR (SE_len L (SE_var 4 rfl (by decide)) (fun _ _ => rfl) rfl rfl) (fun _ _ => rfl) (Tgt_name (loc := false) 6 rfl (fun h => by cases h)) (SSs_cons (SS_assign 7 rfl (SE_item (SE_var 1 rfl (by decide)) (SE_bin (SE_var 6 rfl (by decide)) SE_int) (fun _ _ => by with_unfolding_all rfl)) (fun _ => rfl)) (SSs_cons (SS_if (SB_cmp (SE_item (SE_var 4 rfl (by decide)) (SE_var 6 rfl (by decide)) (fun _ _ => by with_unfolding_all rfl)) SE_str rfl) (SSs_cons (SS_assign 7 rfl (SE_call (spec_resolve_label L) (by decide) (.cons (SE_var 7 rfl (by decide)) (fun _ _ => rfl) (.cons (SE_var 2 rfl (by decide)) (fun _ _ => rfl) (.cons (SE_var 3 rfl (by decide)) (fun _ _ => rfl) .nil))) (L.mg rfl) ⟨_, _, L.X 145 _ rfl, rfl⟩ rfl (by decide)) (fun _ => rfl)) SSs_nil) (SSs_cons (SS_if (SB_or (.cons (SB_cmp (SE_item (SE_var 4 rfl (by decide)) (SE_var 6 rfl (by decide)) (fun _ _ => by with_unfolding_all rfl)) SE_str rfl) (.cons (SB_cmp (SE_item (SE_var 4 rfl (by decide)) (SE_var 6 rfl (by decide)) (fun _ _ => by with_unfolding_all rfl)) SE_str rfl) .nil))) (SSs_cons (SS_assign 7 rfl (SE_call (spec_resolve_table L) (by decide) (.cons (SE_var 7 rfl (by decide)) (fun _ _ => rfl) (.cons (SE_var 2 rfl (by decide)) (fun _ _ => rfl) (.cons (SE_var 3 rfl (by decide)) (fun _ _ => rfl) .nil))) (L.mg rfl) ⟨_, _, L.X 152 _ rfl, rfl⟩ rfl (by decide)) (fun _ => rfl)) SSs_nil) SSs_nil) SSs_nil)) (SSs_cons (SS_meth (id := "list.append") 5 rfl (by decide) (.cons (SE_var 7 rfl (by decide)) (fun _ _ => rfl) .nil) append_ok F.slot_list_append F.type_list_append rfl (fun _ => rfl) (fun _ => rfl) (fun _ => rfl) hint (fun _ => rfl)) SSs_nil))) (L.mgN rfl) rfl (fun _ _ => rfl)) (SSs_cons (SS_ret (SE_tupleOf L (SE_var 5 rfl (by decide)) (fun _ _ => rfl) rfl rfl)) SSs_nil)))))


end Mine
namespace Mine
open PySem PySem.W PySem.Calls PyProof.Rows

noncomputable def F_law_due : SF := (sSeq (sAssign 2 (eDisp (dfold [(.int (-1), .int 2)] []))) (sSeq (sAssign 3 (eDat (.int 0))) (sSeq (sFor (eVar 0) (tName 4) (sSeq (sIf (tst2 (cmpD .In) (eVar 4) (eCall fn_law_bad [])) (sSeq (sRet (eDat .none)) sNil) sNil) (sSeq (sIf (tst2 (cmpD .Eq) (eItem (eVar 4) (eDat (.int 0))) (eDat (.str "label"))) (sSeq (sIf (tst2 (cmpD .In) (eItem (eVar 4) (eDat (.int 1))) (eVar 2)) (sSeq (sRet (eDat .none)) sNil) sNil) (sSeq (sSet 2 (eItem (eVar 4) (eDat (.int 1))) (eOp2 (binD .Add) (eVar 1) (eVar 3))) sNil)) (sSeq (sAug 3 (eDat (.int 1))) sNil)) sNil))) (sSeq (sAssign 5 (eList [])) (sSeq (sFor (eVar 0) (tName 4) (sSeq (sFor (eCall fn_law_asked [(eVar 4)]) (tName 6) (sSeq (sIf (tOr [(tst2 (cmpD .NotIn) (eVar 6) (eVar 2)), (tAnd [(tst2 (cmpD .GtE) (eVar 6) (eDat (.int 0))), (tst2 (cmpD .Eq) (eItem (eVar 2) (eVar 6)) (eOp2 (binD .Add) (eVar 1) (eVar 3)))])]) (sSeq (sRet (eDat .none)) sNil) sNil) sNil)) (sSeq (sIf (tst2 (cmpD .In) (eItem (eVar 4) (eDat (.int 0))) (eTuple [(eDat (.str "switch_on_constant")), (eDat (.str "switch_on_structure"))])) (sSeq (sAssign 7 (eDisp (some []))) (sSeq (sFor (eItem (eVar 4) (eDat (.int 1))) (tPair 8 6) (sSeq (sIf (tst2 (cmpD .In) (eVar 8) (eVar 7)) (sSeq (sRet (eDat .none)) sNil) sNil) (sSeq (sSet 7 (eVar 8) (eItem (eVar 2) (eVar 6))) sNil))) (sSeq (sMeth 5 appendD [(eTuple [(eItem (eVar 4) (eDat (.int 0))), (eVar 7), (eItem (eVar 2) (eItem (eVar 4) (eDat (.int 2))))])]) sNil))) (sSeq (sIf (tst2 (cmpD .Eq) (eItem (eVar 4) (eDat (.int 0))) (eDat (.str "switch_on_term"))) (sSeq (sMeth 5 appendD [(eTuple [(eItem (eVar 4) (eDat (.int 0))), (eItem (eVar 2) (eItem (eVar 4) (eDat (.int 1)))), (eItem (eVar 2) (eItem (eVar 4) (eDat (.int 2)))), (eItem (eVar 2) (eItem (eVar 4) (eDat (.int 3)))), (eItem (eVar 2) (eItem (eVar 4) (eDat (.int 4))))])]) sNil) (sSeq (sIf (tst2 (cmpD .In) (eItem (eVar 4) (eDat (.int 0))) (eTuple [(eDat (.str "try")), (eDat (.str "retry")), (eDat (.str "trust"))])) (sSeq (sMeth 5 appendD [(eOp2 (binD .Add) (eTuple [(eItem (eVar 4) (eDat (.int 0))), (eItem (eVar 2) (eItem (eVar 4) (eDat (.int 1))))]) (eOp1 (fromD 2) (eVar 4)))]) sNil) (sSeq (sIf (tst2 (cmpD .NotEq) (eItem (eVar 4) (eDat (.int 0))) (eDat (.str "label"))) (sSeq (sMeth 5 appendD [(eVar 4)]) sNil) sNil) sNil)) sNil)) sNil)) sNil))) (sSeq (sRet (eVar 5)) sNil))))))
noncomputable def fn_law_due : Fn := fnOfS 2 7 [] F_law_due
set_option maxHeartbeats 4000000 in
theorem spec_law_due {G : GC} {P : Params} (L : LawG G P) : FnSpec G 3 222 fn_law_due := by
  refine fnSpec_of (n := 2) (params := [("rows" : Str), ("base" : Str)]) (locs := [("where" : Str), ("many" : Str), ("ins" : Str), ("found" : Str), ("label" : Str), ("pairs" : Str), ("key" : Str)]) (k := 2) (dv := []) (da := []) ⟨⟨_, L.X 222 _ rfl, rfl⟩, L.code rfl, rfl, rfl, rfl, rfl, (fun s vals _ h => bind2 (fun _ _ => BindsTo.of_eq rfl) vals h), rfl, rfl, rfl, rfl⟩ (fun _ _ => .nil) (by decide) (by decide) ?_
  exact (SSs_cons (SS_assign 2 rfl (SE_disp (.cons CE_neg (CE_glob (L.mg rfl) rfl (by decide)) .nil) (by simp) (by decide)) (fun _ => rfl)) (SSs_cons (SS_assign 3 rfl SE_int (fun _ => rfl)) (SSs_cons (SS_for (SE_var 0 rfl (by decide)) (Tgt_name (loc := false) 4 rfl (fun h => by cases h)) (SSs_cons (SS_if (SB_cmp (SE_var 4 rfl (by decide)) (SE_call (spec_law_bad L) (by decide) .nil (L.mg rfl) ⟨_, _, L.X 186 _ rfl, rfl⟩ rfl (by decide)) rfl) (SSs_cons (SS_ret SE_none) SSs_nil) SSs_nil) (SSs_cons (SS_if (SB_cmp (SE_item (SE_var 4 rfl (by decide)) SE_int (fun _ _ => by with_unfolding_all rfl)) SE_str rfl) (SSs_cons (SS_if (SB_cmp (SE_item (SE_var 4 rfl (by decide)) SE_int (fun _ _ => by with_unfolding_all rfl)) (SE_var 2 rfl (by decide)) rfl) (SSs_cons (SS_ret SE_none) SSs_nil) SSs_nil) (SSs_cons (SS_set 2 rfl (by decide) (SE_item (SE_var 4 rfl (by decide)) SE_int (fun _ _ => by with_unfolding_all rfl)) (SE_bin (SE_var 1 rfl (by decide)) (SE_var 3 rfl (by decide))) (fun _ => rfl)) SSs_nil)) (SSs_cons (SS_aug 3 rfl SE_int) SSs_nil)) SSs_nil)) (fun _ _ => rfl)) (SSs_cons (SS_assign 5 rfl (SE_list .nil) (fun _ => rfl)) (SSs_cons (SS_for (SE_var 0 rfl (by decide)) (Tgt_name (loc := false) 4 rfl (fun h => by cases h)) (SSs_cons (SS_for (SE_call (spec_law_asked L) (by decide) (.cons (SE_var 4 rfl (by decide)) (fun _ _ => rfl) .nil) (L.mg rfl) ⟨_, _, L.X 210 _ rfl, rfl⟩ rfl (by decide)) (Tgt_name (loc := false) 6 rfl (fun h => by cases h)) (SSs_cons (SS_if (SB_or (.cons (SB_cmp (SE_var 6 rfl (by decide)) (SE_var 2 rfl (by decide)) rfl) (.cons (SB_and (.cons (SB_cmp (SE_var 6 rfl (by decide)) SE_int rfl) (.cons (SB_cmp (SE_item (SE_var 2 rfl (by decide)) (SE_var 6 rfl (by decide)) (fun _ _ => by with_unfolding_all rfl)) (SE_bin (SE_var 1 rfl (by decide)) (SE_var 3 rfl (by decide))) rfl) .nil))) .nil))) (SSs_cons (SS_ret SE_none) SSs_nil) SSs_nil) SSs_nil) (fun _ _ => rfl)) (SSs_cons (SS_if (SB_cmp (SE_item (SE_var 4 rfl (by decide)) SE_int (fun _ _ => by with_unfolding_all rfl)) (SE_tuple (.cons SE_str (fun _ _ => rfl) (.cons SE_str (fun _ _ => rfl) .nil))) rfl) (SSs_cons (SS_assign 7 rfl SE_dict0 (fun _ => rfl)) (SSs_cons (SS_for (SE_item (SE_var 4 rfl (by decide)) SE_int (fun _ _ => by with_unfolding_all rfl)) (Tgt_pair (loc := false) 8 6 rfl rfl (fun h => by cases h)) (SSs_cons (SS_if (SB_cmp (SE_var 8 rfl (by decide)) (SE_var 7 rfl (by decide)) rfl) (SSs_cons (SS_ret SE_none) SSs_nil) SSs_nil) (SSs_cons (SS_set 7 rfl (by decide) (SE_var 8 rfl (by decide)) (SE_item (SE_var 2 rfl (by decide)) (SE_var 6 rfl (by decide)) (fun _ _ => by with_unfolding_all rfl)) (fun _ => rfl)) SSs_nil)) (fun _ _ => rfl)) (SSs_cons (SS_meth (id := "list.append") 5 rfl (by decide) (.cons (SE_tuple (.cons (SE_item (SE_var 4 rfl (by decide)) SE_int (fun _ _ => by with_unfolding_all rfl)) (fun _ _ => rfl) (.cons (SE_var 7 rfl (by decide)) (fun _ _ => rfl) (.cons (SE_item (SE_var 2 rfl (by decide)) (SE_item (SE_var 4 rfl (by decide)) SE_int (fun _ _ => by with_unfolding_all rfl)) (fun _ _ => by with_unfolding_all rfl)) (fun _ _ => rfl) .nil)))) (fun _ _ => rfl) .nil) append_ok F.slot_list_append F.type_list_append rfl (fun _ => rfl) (fun _ => rfl) (fun _ => rfl) hint (fun _ => rfl)) SSs_nil))) (SSs_cons (SS_if (SB_cmp (SE_item (SE_var 4 rfl (by decide)) SE_int (fun _ _ => by with_unfolding_all rfl)) SE_str rfl) (SSs_cons (SS_meth (id := "list.append") 5 rfl (by decide) (.cons (SE_tuple (.cons (SE_item (SE_var 4 rfl (by decide)) SE_int (fun _ _ => by with_unfolding_all rfl)) (fun _ _ => rfl) (.cons (SE_item (SE_var 2 rfl (by decide)) (SE_item (SE_var 4 rfl (by decide)) SE_int (fun _ _ => by with_unfolding_all rfl)) (fun _ _ => by with_unfolding_all rfl)) (fun _ _ => rfl) (.cons (SE_item (SE_var 2 rfl (by decide)) (SE_item (SE_var 4 rfl (by decide)) SE_int (fun _ _ => by with_unfolding_all rfl)) (fun _ _ => by with_unfolding_all rfl)) (fun _ _ => rfl) (.cons (SE_item (SE_var 2 rfl (by decide)) (SE_item (SE_var 4 rfl (by decide)) SE_int (fun _ _ => by with_unfolding_all rfl)) (fun _ _ => by with_unfolding_all rfl)) (fun _ _ => rfl) (.cons (SE_item (SE_var 2 rfl (by decide)) (SE_item (SE_var 4 rfl (by decide)) SE_int (fun _ _ => by with_unfolding_all rfl)) (fun _ _ => by with_unfolding_all rfl)) (fun _ _ => rfl) .nil)))))) (fun _ _ => rfl) .nil) append_ok F.slot_list_append F.type_list_append rfl (fun _ => rfl) (fun _ => rfl) (fun _ => rfl) hint (fun _ => rfl)) SSs_nil) (SSs_cons (SS_if (SB_cmp (SE_item (SE_var 4 rfl (by decide)) SE_int (fun _ _ => by with_unfolding_all rfl)) (SE_tuple (.cons SE_str (fun _ _ => rfl) (.cons SE_str (fun _ _ => rfl) (.cons SE_str (fun _ _ => rfl) .nil)))) rfl) (SSs_cons (SS_meth (id := "list.append") 5 rfl (by decide) (.cons (SE_bin (SE_tuple (.cons (SE_item (SE_var 4 rfl (by decide)) SE_int (fun _ _ => by with_unfolding_all rfl)) (fun _ _ => rfl) (.cons (SE_item (SE_var 2 rfl (by decide)) (SE_item (SE_var 4 rfl (by decide)) SE_int (fun _ _ => by with_unfolding_all rfl)) (fun _ _ => by with_unfolding_all rfl)) (fun _ _ => rfl) .nil))) (SE_from (k := 2) (SE_var 4 rfl (by decide)) (fun _ _ => by with_unfolding_all rfl))) (fun _ _ => rfl) .nil) append_ok F.slot_list_append F.type_list_append rfl (fun _ => rfl) (fun _ => rfl) (fun _ => rfl) hint (fun _ => rfl)) SSs_nil) (SSs_cons (SS_if (SB_cmp (SE_item (SE_var 4 rfl (by decide)) SE_int (fun _ _ => by with_unfolding_all rfl)) SE_str rfl) (SSs_cons (SS_meth (id := "list.append") 5 rfl (by decide) (.cons (SE_var 4 rfl (by decide)) (fun _ _ => rfl) .nil) append_ok F.slot_list_append F.type_list_append rfl (fun _ => rfl) (fun _ => rfl) (fun _ => rfl) hint (fun _ => rfl)) SSs_nil) SSs_nil) SSs_nil)) SSs_nil)) SSs_nil)) SSs_nil)) (fun _ _ => rfl)) (SSs_cons (SS_ret (SE_var 5 rfl (by decide))) SSs_nil))))))


noncomputable def F_law_real : SF := (sSeq (sAssign 1 (eOp2 (binD .Mod) (eCall fn_law_next [(eVar 0)]) (eDat (.int 9)))) (sSeq (sIf (tst2 (cmpD .Eq) (eVar 1) (eDat (.int 1))) (sSeq (sRet (eTuple [(eDat (.str "try")), (eCall fn_law_label [(eVar 0)]), (eOp2 (binD .Mod) (eCall fn_law_next [(eVar 0)]) (eDat (.int 4)))])) sNil) sNil) (sSeq (sIf (tst2 (cmpD .Eq) (eVar 1) (eDat (.int 2))) (sSeq (sRet (eTuple [(eDat (.str "retry")), (eCall fn_law_label [(eVar 0)])])) sNil) sNil) (sSeq (sIf (tst2 (cmpD .Eq) (eVar 1) (eDat (.int 3))) (sSeq (sRet (eTuple [(eDat (.str "trust")), (eCall fn_law_label [(eVar 0)])])) sNil) sNil) (sSeq (sIf (tst2 (cmpD .Eq) (eVar 1) (eDat (.int 4))) (sSeq (sRet (eOp2 (binD .Add) (eTuple [(eDat (.str "switch_on_term"))]) (eFn1 tupD (eCompR 1 (eDat (.int 4)) [0] (tName 0) (fun st => .ok true st) (eCall fn_law_label [(eVar 1)]))))) sNil) sNil) (sSeq (sIf (tst2 (cmpD .Eq) (eVar 1) (eDat (.int 5))) (sSeq (sRet (eTuple [(eDat (.str "switch_on_constant")), (eCall fn_law_pairs [(eVar 0), (eDat (.bool true))]), (eCall fn_law_label [(eVar 0)])])) sNil) sNil) (sSeq (sIf (tst2 (cmpD .Eq) (eVar 1) (eDat (.int 6))) (sSeq (sRet (eTuple [(eDat (.str "switch_on_structure")), (eCall fn_law_pairs [(eVar 0), (eDat (.bool false))]), (eCall fn_law_label [(eVar 0)])])) sNil) sNil) (sSeq (sIf (tst2 (cmpD .Eq) (eVar 1) (eDat (.int 7))) (sSeq (sRet (eTuple [(eDat (.str "call")), (eCall fn_law_next [(eVar 0)]), (eOp2 (binD .Mod) (eCall fn_law_next [(eVar 0)]) (eDat (.int 3)))])) sNil) sNil) (sSeq (sIf (tst2 (cmpD .Eq) (eVar 1) (eDat (.int 8))) (sSeq (sRet (eTuple [(eDat (.str "get_constant")), (eTuple [(eDat (.int 5)), (eOp2 (binD .Sub) (eDat (.int 3)) (eCall fn_law_next [(eVar 0)]))]), (eTuple [(eDat (.str "x")), (eOp2 (binD .Add) (eDat (.int 1)) (eOp2 (binD .Mod) (eCall fn_law_next [(eVar 0)]) (eDat (.int 3))))])])) sNil) sNil) (sSeq (sRet (eTuple [(eDat (.str "proceed"))])) sNil))))))))))
noncomputable def fn_law_real : Fn := fnOfS 1 1 [] F_law_real
set_option maxHeartbeats 4000000 in
theorem spec_law_real {G : GC} {P : Params} (L : LawG G P) : FnSpec G 5 205 fn_law_real := by
  refine fnSpec_of (n := 4) (params := [("row" : Str)]) (locs := [("kind" : Str)]) (k := 1) (dv := []) (da := []) ⟨⟨_, L.X 205 _ rfl, rfl⟩, L.code rfl, rfl, rfl, rfl, rfl, (fun s vals _ h => bind1 (fun _ => BindsTo.of_eq rfl) vals h), rfl, rfl, rfl, rfl⟩ (fun _ _ => .nil) (by decide) (by decide) ?_
  exact (SSs_cons (SS_assign 1 rfl (SE_bin (SE_call (spec_law_next L) (by decide) (.cons (SE_var 0 rfl (by decide)) (fun _ _ => rfl) .nil) (L.mg rfl) ⟨_, _, L.X 179 _ rfl, rfl⟩ rfl (by decide)) SE_int) (fun _ => rfl)) (SSs_cons (SS_if (SB_cmp (SE_var 1 rfl (by decide)) SE_int rfl) (SSs_cons (SS_ret (SE_tuple (.cons SE_str (fun _ _ => rfl) (.cons (SE_call (spec_law_label L) (by decide) (.cons (SE_var 0 rfl (by decide)) (fun _ _ => rfl) .nil) (L.mg rfl) ⟨_, _, L.X 193 _ rfl, rfl⟩ rfl (by decide)) (fun _ _ => rfl) (.cons (SE_bin (SE_call (spec_law_next L) (by decide) (.cons (SE_var 0 rfl (by decide)) (fun _ _ => rfl) .nil) (L.mg rfl) ⟨_, _, L.X 179 _ rfl, rfl⟩ rfl (by decide)) SE_int) (fun _ _ => rfl) .nil))))) SSs_nil) SSs_nil) (SSs_cons (SS_if (SB_cmp (SE_var 1 rfl (by decide)) SE_int rfl) (SSs_cons (SS_ret (SE_tuple (.cons SE_str (fun _ _ => rfl) (.cons (SE_call (spec_law_label L) (by decide) (.cons (SE_var 0 rfl (by decide)) (fun _ _ => rfl) .nil) (L.mg rfl) ⟨_, _, L.X 193 _ rfl, rfl⟩ rfl (by decide)) (fun _ _ => rfl) .nil)))) SSs_nil) SSs_nil) (SSs_cons (SS_if (SB_cmp (SE_var 1 rfl (by decide)) SE_int rfl) (SSs_cons (SS_ret (SE_tuple (.cons SE_str (fun _ _ => rfl) (.cons (SE_call (spec_law_label L) (by decide) (.cons (SE_var 0 rfl (by decide)) (fun _ _ => rfl) .nil) (L.mg rfl) ⟨_, _, L.X 193 _ rfl, rfl⟩ rfl (by decide)) (fun _ _ => rfl) .nil)))) SSs_nil) SSs_nil) (SSs_cons (SS_if (SB_cmp (SE_var 1 rfl (by decide)) SE_int rfl) (SSs_cons (SS_ret (SE_bin (SE_tuple (.cons SE_str (fun _ _ => rfl) .nil)) (SE_tupleOf L (SE_compR (tn := [("turn" : Str)]) (cn := [("row" : Str)]) (caps := [0]) SE_int (fun _ _ => rfl) ⟨rfl, by decide, by decide, by decide, rfl, by decide, by decide, by decide⟩ (Tgt_name (loc := true) 0 rfl (fun _ => rfl)) .nil (SE_call (spec_law_label L) (by decide) (.cons (SE_var 1 rfl (by decide)) (fun _ _ => rfl) .nil) (L.mg rfl) ⟨_, _, L.X 193 _ rfl, rfl⟩ rfl (by decide)) (L.mgN rfl) rfl (fun _ _ => rfl)) (fun _ _ => rfl) rfl rfl))) SSs_nil) SSs_nil) (SSs_cons (SS_if (SB_cmp (SE_var 1 rfl (by decide)) SE_int rfl) (SSs_cons (SS_ret (SE_tuple (.cons SE_str (fun _ _ => rfl) (.cons (SE_call (spec_law_pairs L) (by decide) (.cons (SE_var 0 rfl (by decide)) (fun _ _ => rfl) (.cons SE_bool (fun _ _ => rfl) .nil)) (L.mg rfl) ⟨_, _, L.X 200 _ rfl, rfl⟩ rfl (by decide)) (fun _ _ => rfl) (.cons (SE_call (spec_law_label L) (by decide) (.cons (SE_var 0 rfl (by decide)) (fun _ _ => rfl) .nil) (L.mg rfl) ⟨_, _, L.X 193 _ rfl, rfl⟩ rfl (by decide)) (fun _ _ => rfl) .nil))))) SSs_nil) SSs_nil) (SSs_cons (SS_if (SB_cmp (SE_var 1 rfl (by decide)) SE_int rfl) (SSs_cons (SS_ret (SE_tuple (.cons SE_str (fun _ _ => rfl) (.cons (SE_call (spec_law_pairs L) (by decide) (.cons (SE_var 0 rfl (by decide)) (fun _ _ => rfl) (.cons SE_bool (fun _ _ => rfl) .nil)) (L.mg rfl) ⟨_, _, L.X 200 _ rfl, rfl⟩ rfl (by decide)) (fun _ _ => rfl) (.cons (SE_call (spec_law_label L) (by decide) (.cons (SE_var 0 rfl (by decide)) (fun _ _ => rfl) .nil) (L.mg rfl) ⟨_, _, L.X 193 _ rfl, rfl⟩ rfl (by decide)) (fun _ _ => rfl) .nil))))) SSs_nil) SSs_nil) (SSs_cons (SS_if (SB_cmp (SE_var 1 rfl (by decide)) SE_int rfl) (SSs_cons (SS_ret (SE_tuple (.cons SE_str (fun _ _ => rfl) (.cons (SE_call (spec_law_next L) (by decide) (.cons (SE_var 0 rfl (by decide)) (fun _ _ => rfl) .nil) (L.mg rfl) ⟨_, _, L.X 179 _ rfl, rfl⟩ rfl (by decide)) (fun _ _ => rfl) (.cons (SE_bin (SE_call (spec_law_next L) (by decide) (.cons (SE_var 0 rfl (by decide)) (fun _ _ => rfl) .nil) (L.mg rfl) ⟨_, _, L.X 179 _ rfl, rfl⟩ rfl (by decide)) SE_int) (fun _ _ => rfl) .nil))))) SSs_nil) SSs_nil) (SSs_cons (SS_if (SB_cmp (SE_var 1 rfl (by decide)) SE_int rfl) (SSs_cons (SS_ret (SE_tuple (.cons SE_str (fun _ _ => rfl) (.cons (SE_tuple (.cons (SE_glob (L.mg rfl) rfl (by decide)) (fun _ _ => rfl) (.cons (SE_bin SE_int (SE_call (spec_law_next L) (by decide) (.cons (SE_var 0 rfl (by decide)) (fun _ _ => rfl) .nil) (L.mg rfl) ⟨_, _, L.X 179 _ rfl, rfl⟩ rfl (by decide))) (fun _ _ => rfl) .nil))) (fun _ _ => rfl) (.cons (SE_tuple (.cons SE_str (fun _ _ => rfl) (.cons (SE_bin SE_int (SE_bin (SE_call (spec_law_next L) (by decide) (.cons (SE_var 0 rfl (by decide)) (fun _ _ => rfl) .nil) (L.mg rfl) ⟨_, _, L.X 179 _ rfl, rfl⟩ rfl (by decide)) SE_int)) (fun _ _ => rfl) .nil))) (fun _ _ => rfl) .nil))))) SSs_nil) SSs_nil) (SSs_cons (SS_ret (SE_tuple (.cons SE_str (fun _ _ => rfl) .nil))) SSs_nil))))))))))


noncomputable def F_law_block : SF := (sSeq (sAssignCR 1 1 (eOp2 (binD .Mod) (eCall fn_law_next [(eVar 0)]) (eDat (.int 9))) [0] (tName 0) (fun st => .ok true st) (eCall fn_law_real [(eVar 1)])) (sSeq (sAssign 2 (eList [])) (sSeq (sFor (eVar 1) (tName 3) (sSeq (sFor (eCall fn_law_asked [(eVar 3)]) (tName 4) (sSeq (sIf (tAnd [(tst2 (cmpD .GtE) (eVar 4) (eDat (.int 0))), (tst2 (cmpD .NotIn) (eVar 4) (eVar 2))]) (sSeq (sMeth 2 appendD [(eVar 4)]) sNil) sNil) sNil)) sNil)) (sSeq (sAssign 5 (eFn1 (fun x => (lenD x).map fun i => (.int i, false)) (eVar 1))) (sSeq (sFor (eVar 2) (tName 4) (sSeq (sMeth 1 insertD [(eOp2 (binD .Mod) (eCall fn_law_next [(eVar 0)]) (eVar 5)), (eTuple [(eDat (.str "label")), (eVar 4)])]) sNil)) (sSeq (sAssign 6 (eOp2 (binD .Mod) (eCall fn_law_next [(eVar 0)]) (eDat (.int 8)))) (sSeq (sAssign 7 (eOp2 (binD .Mod) (eCall fn_law_next [(eVar 0)]) (eFn2 maxD (eDat (.int 1)) (eFn1 (fun x => (lenD x).map fun i => (.int i, false)) (eVar 1))))) (sSeq (sIf (tAnd [(tst2 (cmpD .Eq) (eVar 6) (eDat (.int 1))), (tst2 (cmpD .NotEq) (eVar 2) (eList []))]) (sSeq (sMeth 1 removeD [(eTuple [(eDat (.str "label")), (eItem (eVar 2) (eOp2 (binD .Mod) (eVar 7) (eFn1 (fun x => (lenD x).map fun i => (.int i, false)) (eVar 2))))])]) sNil) (sSeq (sIf (tAnd [(tst2 (cmpD .Eq) (eVar 6) (eDat (.int 2))), (tst2 (cmpD .NotEq) (eVar 2) (eList []))]) (sSeq (sMeth 1 insertD [(eVar 7), (eTuple [(eDat (.str "label")), (eItem (eVar 2) (eDat (.int 0)))])]) sNil) (sSeq (sIf (tAnd [(tst2 (cmpD .Eq) (eVar 6) (eDat (.int 3))), (tst2 (cmpD .NotEq) (eVar 2) (eList []))]) (sSeq (sMeth 1 removeD [(eTuple [(eDat (.str "label")), (eItem (eVar 2) (eDat (.int 0)))])]) (sSeq (sMeth 1 appendD [(eTuple [(eDat (.str "label")), (eItem (eVar 2) (eDat (.int 0)))])]) sNil)) (sSeq (sIf (tst2 (cmpD .Eq) (eVar 6) (eDat (.int 4))) (sSeq (sAssign 8 (eCall fn_law_bad [])) (sSeq (sMeth 1 insertD [(eVar 7), (eItem (eVar 8) (eOp2 (binD .Mod) (eCall fn_law_next [(eVar 0)]) (eFn1 (fun x => (lenD x).map fun i => (.int i, false)) (eVar 8))))]) sNil)) (sSeq (sIf (tst2 (cmpD .Eq) (eVar 6) (eDat (.int 5))) (sSeq (sMeth 1 insertD [(eVar 7), (eTuple [(eDat (.str "label")), (eDat (.int 9))])]) sNil) sNil) sNil)) sNil)) sNil)) sNil)) (sSeq (sRet (eVar 1)) sNil)))))))))
noncomputable def fn_law_block : Fn := fnOfS 1 8 [] F_law_block
set_option maxHeartbeats 4000000 in
theorem spec_law_block {G : GC} {P : Params} (L : LawG G P) : FnSpec G 6 215 fn_law_block := by
  refine fnSpec_of (n := 5) (params := [("row" : Str)]) (locs := [("rows" : Str), ("labels" : Str), ("ins" : Str), ("label" : Str), ("many" : Str), ("spoil" : Str), ("place" : Str), ("bad" : Str)]) (k := 1) (dv := []) (da := []) ⟨⟨_, L.X 215 _ rfl, rfl⟩, L.code rfl, rfl, rfl, rfl, rfl, (fun s vals _ h => bind1 (fun _ => BindsTo.of_eq rfl) vals h), rfl, rfl, rfl, rfl⟩ (fun _ _ => .nil) (by decide) (by decide) ?_
  exact (SSs_cons (SS_assignCR (tn := [("turn" : Str)]) (cn := [("row" : Str)]) (caps := [0]) 1 rfl rfl (SE_bin (SE_call (spec_law_next L) (by decide) (.cons (SE_var 0 rfl (by decide)) (fun _ _ => rfl) .nil) (L.mg rfl) ⟨_, _, L.X 179 _ rfl, rfl⟩ rfl (by decide)) SE_int) (fun _ _ => rfl) ⟨rfl, by decide, by decide, by decide, rfl, by decide, by decide, by decide⟩ (Tgt_name (loc := true) 0 rfl (fun _ => rfl)) .nil (SE_call (spec_law_real L) (by decide) (.cons (SE_var 1 rfl (by decide)) (fun _ _ => rfl) .nil) (L.mg rfl) ⟨_, _, L.X 205 _ rfl, rfl⟩ rfl (by decide)) (L.mgN rfl) rfl (fun _ _ => rfl) (swaps_of rfl)) (SSs_cons (SS_assign 2 rfl (SE_list .nil) (fun _ => rfl)) (SSs_cons (SS_for (SE_var 1 rfl (by decide)) (Tgt_name (loc := false) 3 rfl (fun h => by cases h)) (SSs_cons (SS_for (SE_call (spec_law_asked L) (by decide) (.cons (SE_var 3 rfl (by decide)) (fun _ _ => rfl) .nil) (L.mg rfl) ⟨_, _, L.X 210 _ rfl, rfl⟩ rfl (by decide)) (Tgt_name (loc := false) 4 rfl (fun h => by cases h)) (SSs_cons (SS_if (SB_and (.cons (SB_cmp (SE_var 4 rfl (by decide)) SE_int rfl) (.cons (SB_cmp (SE_var 4 rfl (by decide)) (SE_var 2 rfl (by decide)) rfl) .nil))) (SSs_cons (SS_meth (id := "list.append") 2 rfl (by decide) (.cons (SE_var 4 rfl (by decide)) (fun _ _ => rfl) .nil) append_ok F.slot_list_append F.type_list_append rfl (fun _ => rfl) (fun _ => rfl) (fun _ => rfl) hint (fun _ => rfl)) SSs_nil) SSs_nil) SSs_nil) (fun _ _ => rfl)) SSs_nil) (fun _ _ => rfl)) (SSs_cons (SS_assign 5 rfl (SE_len L (SE_var 1 rfl (by decide)) (fun _ _ => rfl) rfl rfl) (fun _ => rfl)) (SSs_cons (SS_for (SE_var 2 rfl (by decide)) (Tgt_name (loc := false) 4 rfl (fun h => by cases h)) (SSs_cons (SS_meth (id := "list.insert") 1 rfl (by decide) (.cons (SE_bin (SE_call (spec_law_next L) (by decide) (.cons (SE_var 0 rfl (by decide)) (fun _ _ => rfl) .nil) (L.mg rfl) ⟨_, _, L.X 179 _ rfl, rfl⟩ rfl (by decide)) (SE_var 5 rfl (by decide))) (fun _ _ => rfl) (.cons (SE_tuple (.cons SE_str (fun _ _ => rfl) (.cons (SE_var 4 rfl (by decide)) (fun _ _ => rfl) .nil))) (fun _ _ => rfl) .nil)) insert_ok F.slot_list_insert F.type_list_insert rfl (fun _ => rfl) (fun _ => rfl) (fun _ => rfl) hint (fun _ => rfl)) SSs_nil) (fun _ _ => rfl)) (SSs_cons (SS_assign 6 rfl (SE_bin (SE_call (spec_law_next L) (by decide) (.cons (SE_var 0 rfl (by decide)) (fun _ _ => rfl) .nil) (L.mg rfl) ⟨_, _, L.X 179 _ rfl, rfl⟩ rfl (by decide)) SE_int) (fun _ => rfl)) (SSs_cons (SS_assign 7 rfl (SE_bin (SE_call (spec_law_next L) (by decide) (.cons (SE_var 0 rfl (by decide)) (fun _ _ => rfl) .nil) (L.mg rfl) ⟨_, _, L.X 179 _ rfl, rfl⟩ rfl (by decide)) (SE_max L SE_int (SE_len L (SE_var 1 rfl (by decide)) (fun _ _ => rfl) rfl rfl) (fun _ _ => rfl) (fun _ _ => rfl) rfl rfl)) (fun _ => rfl)) (SSs_cons (SS_if (SB_and (.cons (SB_cmp (SE_var 6 rfl (by decide)) SE_int rfl) (.cons (SB_cmp (SE_var 2 rfl (by decide)) (SE_list .nil) rfl) .nil))) (SSs_cons (SS_meth (id := "list.remove") 1 rfl (by decide) (.cons (SE_tuple (.cons SE_str (fun _ _ => rfl) (.cons (SE_item (SE_var 2 rfl (by decide)) (SE_bin (SE_var 7 rfl (by decide)) (SE_len L (SE_var 2 rfl (by decide)) (fun _ _ => rfl) rfl rfl)) (fun _ _ => by with_unfolding_all rfl)) (fun _ _ => rfl) .nil))) (fun _ _ => rfl) .nil) remove_ok F.slot_list_remove F.type_list_remove rfl (fun _ => rfl) (fun _ => rfl) (fun _ => rfl) hint (fun _ => rfl)) SSs_nil) (SSs_cons (SS_if (SB_and (.cons (SB_cmp (SE_var 6 rfl (by decide)) SE_int rfl) (.cons (SB_cmp (SE_var 2 rfl (by decide)) (SE_list .nil) rfl) .nil))) (SSs_cons (SS_meth (id := "list.insert") 1 rfl (by decide) (.cons (SE_var 7 rfl (by decide)) (fun _ _ => rfl) (.cons (SE_tuple (.cons SE_str (fun _ _ => rfl) (.cons (SE_item (SE_var 2 rfl (by decide)) SE_int (fun _ _ => by with_unfolding_all rfl)) (fun _ _ => rfl) .nil))) (fun _ _ => rfl) .nil)) insert_ok F.slot_list_insert F.type_list_insert rfl (fun _ => rfl) (fun _ => rfl) (fun _ => rfl) hint (fun _ => rfl)) SSs_nil) (SSs_cons (SS_if (SB_and (.cons (SB_cmp (SE_var 6 rfl (by decide)) SE_int rfl) (.cons (SB_cmp (SE_var 2 rfl (by decide)) (SE_list .nil) rfl) .nil))) (SSs_cons (SS_meth (id := "list.remove") 1 rfl (by decide) (.cons (SE_tuple (.cons SE_str (fun _ _ => rfl) (.cons (SE_item (SE_var 2 rfl (by decide)) SE_int (fun _ _ => by with_unfolding_all rfl)) (fun _ _ => rfl) .nil))) (fun _ _ => rfl) .nil) remove_ok F.slot_list_remove F.type_list_remove rfl (fun _ => rfl) (fun _ => rfl) (fun _ => rfl) hint (fun _ => rfl)) (SSs_cons (SS_meth (id := "list.append") 1 rfl (by decide) (.cons (SE_tuple (.cons SE_str (fun _ _ => rfl) (.cons (SE_item (SE_var 2 rfl (by decide)) SE_int (fun _ _ => by with_unfolding_all rfl)) (fun _ _ => rfl) .nil))) (fun _ _ => rfl) .nil) append_ok F.slot_list_append F.type_list_append rfl (fun _ => rfl) (fun _ => rfl) (fun _ => rfl) hint (fun _ => rfl)) SSs_nil)) (SSs_cons (SS_if (SB_cmp (SE_var 6 rfl (by decide)) SE_int rfl) (SSs_cons (SS_assign 8 rfl (SE_call (spec_law_bad L) (by decide) .nil (L.mg rfl) ⟨_, _, L.X 186 _ rfl, rfl⟩ rfl (by decide)) (fun _ => rfl)) (SSs_cons (SS_meth (id := "list.insert") 1 rfl (by decide) (.cons (SE_var 7 rfl (by decide)) (fun _ _ => rfl) (.cons (SE_item (SE_var 8 rfl (by decide)) (SE_bin (SE_call (spec_law_next L) (by decide) (.cons (SE_var 0 rfl (by decide)) (fun _ _ => rfl) .nil) (L.mg rfl) ⟨_, _, L.X 179 _ rfl, rfl⟩ rfl (by decide)) (SE_len L (SE_var 8 rfl (by decide)) (fun _ _ => rfl) rfl rfl)) (fun _ _ => by with_unfolding_all rfl)) (fun _ _ => rfl) .nil)) insert_ok F.slot_list_insert F.type_list_insert rfl (fun _ => rfl) (fun _ => rfl) (fun _ => rfl) hint (fun _ => rfl)) SSs_nil)) (SSs_cons (SS_if (SB_cmp (SE_var 6 rfl (by decide)) SE_int rfl) (SSs_cons (SS_meth (id := "list.insert") 1 rfl (by decide) (.cons (SE_var 7 rfl (by decide)) (fun _ _ => rfl) (.cons (SE_tuple (.cons SE_str (fun _ _ => rfl) (.cons SE_int (fun _ _ => rfl) .nil))) (fun _ _ => rfl) .nil)) insert_ok F.slot_list_insert F.type_list_insert rfl (fun _ => rfl) (fun _ => rfl) (fun _ => rfl) hint (fun _ => rfl)) SSs_nil) SSs_nil) SSs_nil)) SSs_nil)) SSs_nil)) SSs_nil)) (SSs_cons (SS_ret (SE_var 1 rfl (by decide))) SSs_nil)))))))))


end Mine
namespace Mine
open PySem PySem.W PySem.Calls PyProof.Rows

noncomputable def shapesExpr (P : Params) : Expr := match (kFrag P).lookup 54 with
  | some ⟨_, _, .func fd, _⟩ => match fd.body with
    | .stmts [.Return (some e) _] => e
    | _ => .Constant .none 0 default
  | _ => .Constant .none 0 default
theorem okz (P : Params) : okDisp (shapesExpr P) = true := by kernel_rfl
noncomputable def F_shapes (P : Params) : SF := sSeq (sRet (dispOf (shapesExpr P))) sNil
noncomputable def fn_shapes (P : Params) : Fn := fnOfS 0 0 [] (F_shapes P)
set_option maxHeartbeats 4000000 in
theorem spec_shapes {G : GC} {P : Params} (L : LawG G P) : FnSpec G 2 54 (fn_shapes P) := by
  exact ret_spec (fa := 54) (e := shapesExpr P) ⟨⟨_, L.X 54 _ rfl, rfl⟩, L.code rfl, rfl, rfl, rfl, rfl, (fun s vals _ h => bind0 (BindsTo.of_eq rfl) vals h), rfl, rfl, rfl, rfl⟩ (okz P)


end Mine
namespace Mine
open PySem PySem.W PySem.Calls PyProof.Rows

noncomputable def F_assemble (P : Params) : SF := (sSeq (sIf (tst2 (cmpD .Is) (eVar 2) (eDat .none)) (sSeq (sAssign 2 (eCall (fn_shapes P) [])) sNil) sNil) (sSeq (sAssign 3 (eCall fn_label_addresses [(eVar 0), (eVar 1)])) (sSeq (sAssignC 4 1 (eVar 0) [] (tName 0) (tNot (tOf (eCall fn_is_label_row [(eVar 0)]))) (eVar 0)) (sSeq (sAssign 5 (eOp2 (binD .Add) (eVar 1) (eFn1 (fun x => (lenD x).map fun i => (.int i, false)) (eVar 4)))) (sSeq (sRet (eComp 1 (eVar 4) [2, 3, 5] (tName 0) (fun st => .ok true st) (eCall fn_resolve_instruction [(eVar 1), (eVar 0), (eVar 2), (eVar 3)]))) sNil)))))
noncomputable def fn_assemble (P : Params) : Fn := fnOfS 2 3 [.sh .none] (F_assemble P)
set_option maxHeartbeats 4000000 in
theorem spec_assemble {G : GC} {P : Params} (L : LawG G P) : FnSpec G 9 165 (fn_assemble P) := by
  refine fnSpec_of (n := 8) (params := [("block" : Str), ("base" : Str), ("table" : Str)]) (locs := [("addresses" : Str), ("rows" : Str), ("end" : Str)]) (k := 2) (dv := [.none]) (da := [.sh .none]) ⟨⟨_, L.X 165 _ rfl, rfl⟩, L.code rfl, rfl, rfl, rfl, rfl, (fun s vals kG h => bind2 (fun _ _ => BindsTo.of_defaults rfl (kG _ _ (L.X _ _ rfl)) rfl rfl rfl) vals h), rfl, rfl, rfl, rfl⟩ (fun _ _ => .cons (fun _ => .none) .nil) (by decide) (by decide) ?_
  exact (SSs_cons (SS_if (SB_cmp (SE_var 2 rfl (by decide)) SE_none rfl) (SSs_cons (SS_assign 2 rfl (SE_call (spec_shapes L) (by decide) .nil (L.mg rfl) ⟨_, _, L.X 54 _ rfl, rfl⟩ rfl (by decide)) (fun _ => rfl)) SSs_nil) SSs_nil) (SSs_cons (SS_assign 3 rfl (SE_call (spec_label_addresses L) (by decide) (.cons (SE_var 0 rfl (by decide)) (fun _ _ => rfl) (.cons (SE_var 1 rfl (by decide)) (fun _ _ => rfl) .nil)) (L.mg rfl) ⟨_, _, L.X 138 _ rfl, rfl⟩ rfl (by decide)) (fun _ => rfl)) (SSs_cons (SS_assignC (tn := [("row" : Str)]) (cn := []) (caps := []) 4 rfl rfl (SE_var 0 rfl (by decide)) ⟨rfl, by decide, by decide, by decide, rfl, by decide, by decide, by decide⟩ (Tgt_name (loc := true) 0 rfl (fun _ => rfl)) (.one (SB_not (SB_of (SE_call (spec_is_label_row L) (by decide) (.cons (SE_var 0 rfl (by decide)) (fun _ _ => rfl) .nil) (L.mg rfl) ⟨_, _, L.X 131 _ rfl, rfl⟩ rfl (by decide)) (fun _ _ => rfl)))) (SE_var 0 rfl (by decide)) (fun _ _ => rfl) (swaps_of rfl)) (SSs_cons (SS_assign 5 rfl (SE_bin (SE_var 1 rfl (by decide)) (SE_len L (SE_var 4 rfl (by decide)) (fun _ _ => rfl) rfl rfl)) (fun _ => rfl)) (SSs_cons (SS_ret (SE_comp (tn := [("row" : Str)]) (cn := [("table" : Str), ("addresses" : Str), ("end" : Str)]) (caps := [2, 3, 5]) (SE_var 4 rfl (by decide)) ⟨rfl, by decide, by decide, by decide, rfl, by decide, by decide, by decide⟩ (Tgt_name (loc := true) 0 rfl (fun _ => rfl)) .nil (SE_call (spec_resolve_instruction L) (by decide) (.cons (SE_var 1 rfl (by decide)) (fun _ _ => rfl) (.cons (SE_var 0 rfl (by decide)) (fun _ _ => rfl) (.cons (SE_var 2 rfl (by decide)) (fun _ _ => rfl) (.cons (SE_var 3 rfl (by decide)) (fun _ _ => rfl) .nil)))) (L.mg rfl) ⟨_, _, L.X 159 _ rfl, rfl⟩ rfl (by decide)) (fun _ _ => rfl))) SSs_nil)))))


end Mine
namespace Mine
open PySem PySem.W PySem.Calls PyProof.Rows

theorem charNat_inj : ∀ {a b : List Char}, a.map Char.toNat = b.map Char.toNat → a = b
  | [], [], _ => rfl
  | [], _ :: _, h => by simp at h
  | _ :: _, [], h => by simp at h
  | x :: xs, y :: ys, h => by
    simp only [List.map_cons, List.cons.injEq] at h
    rw [charNat_inj h.2, Char.toNat_inj.mp h.1]
theorem ofString_eq (a b : String) : (Str.ofString a = Str.ofString b) = (a = b) := by
  apply propext
  constructor
  · intro h
    rw [Str.ofString_eq_toList, Str.ofString_eq_toList] at h
    simp only [Str.mk.injEq] at h
    have h2 := congrArg Array.toList h
    simp only [List.toList_toArray] at h2
    exact String.toList_inj.mp (charNat_inj h2)
  · rintro rfl; rfl

noncomputable def dp (k : Nat) (x : PyData) : Bool := x.canLay0 && decide (x.depth ≤ k)
noncomputable def dAll (k : Nat) (xs : List PyData) : Bool := PyData.canLayAll0 xs && decide (PyData.depthAll xs ≤ k)
theorem okD_dp (x : PyData) : okD x = dp 8 x := rfl
theorem dp_tuple (k : Nat) (xs : List PyData) : dp (k + 1) (.tuple xs) = dAll k xs := by
  simp only [dp, dAll, PyData.canLay0, PyData.depth, Nat.add_le_add_iff_right]
theorem dp_list (k : Nat) (xs : List PyData) : dp (k + 1) (.list xs) = dAll k xs := by
  simp only [dp, dAll, PyData.canLay0, PyData.depth, Nat.add_le_add_iff_right]
theorem dp_int (k : Nat) (i : Int) : dp k (.int i) = true := by rfl
theorem dp_none (k : Nat) : dp k .none = true := by rfl
theorem dp_bool (k : Nat) (b : Bool) : dp k (.bool b) = true := by rfl
theorem dp_str (k : Nat) (x : Str) : dp k (.str x) = PyData.strOk x := by simp [dp, PyData.canLay0, PyData.depth]
theorem dAll_nil (k : Nat) : dAll k [] = true := by rfl
theorem dAll_cons (k : Nat) (x : PyData) (xs : List PyData) : dAll k (x :: xs) = (dp k x && dAll k xs) := by
  simp only [dAll, dp, PyData.canLayAll0, PyData.depthAll, Nat.max_le, Bool.decide_and]
  cases x.canLay0 <;> cases PyData.canLayAll0 xs <;> simp
theorem dAll_of {k : Nat} : ∀ {xs : List PyData}, (∀ x ∈ xs, dp k x = true) → dAll k xs = true
  | [], _ => dAll_nil k
  | x :: xs, h => by
    rw [dAll_cons, h x List.mem_cons_self, dAll_of fun y hy => h y (List.mem_cons_of_mem _ hy)]
    rfl
theorem dAll_ints (k : Nat) (ts : List Int) : dAll k (ts.map .int) = true := dAll_of fun x hx => by
  obtain ⟨i, _, rfl⟩ := List.mem_map.mp hx
  exact dp_int k i
theorem strOk_list : (["label", "try", "retry", "trust", "switch_on_term", "switch_on_constant", "switch_on_structure", "call", "get_constant", "proceed", "x", "y", "z", "R", "X", "Y", "C", "F", "N", "L", "T", "U", "get_list", "nothing", "get_variable", "put_unsafe_value", "mark", "execute"] : List String).all (fun s => PyData.strOk (Str.ofString s)) = true := by decide +kernel
theorem strOks : PyData.strOk "label" = true ∧ PyData.strOk "try" = true ∧ PyData.strOk "retry" = true ∧ PyData.strOk "trust" = true ∧ PyData.strOk "switch_on_term" = true ∧ PyData.strOk "switch_on_constant" = true ∧ PyData.strOk "switch_on_structure" = true ∧ PyData.strOk "call" = true ∧ PyData.strOk "get_constant" = true ∧ PyData.strOk "proceed" = true ∧ PyData.strOk "x" = true ∧ PyData.strOk "y" = true ∧ PyData.strOk "z" = true ∧ PyData.strOk "R" = true ∧ PyData.strOk "X" = true ∧ PyData.strOk "Y" = true ∧ PyData.strOk "C" = true ∧ PyData.strOk "F" = true ∧ PyData.strOk "N" = true ∧ PyData.strOk "L" = true ∧ PyData.strOk "T" = true ∧ PyData.strOk "U" = true ∧ PyData.strOk "get_list" = true ∧ PyData.strOk "nothing" = true ∧ PyData.strOk "get_variable" = true ∧ PyData.strOk "put_unsafe_value" = true ∧ PyData.strOk "mark" = true ∧ PyData.strOk "execute" = true := by
  have h := strOk_list
  simpa only [List.all_cons, List.all_nil, Bool.and_true, Bool.and_eq_true] using h

noncomputable def kSeq (F2 : SF) : SRes → St → Out SRes := fun r st1 => match r with
  | .next => F2 st1
  | .ret x f => .ok (.ret x f) st1
noncomputable def kIf (F1 F2 : SF) : Bool → St → Out SRes := fun b st1 => match b with
  | true => F1 st1
  | false => F2 st1
noncomputable def kEIf (F1 F2 : EF) : Bool → St → Out AV := fun b st1 => match b with
  | true => F1 st1
  | false => F2 st1
noncomputable def kVar (i : Nat) (st : St) : Option Slot → Out AV
  | some (.own _) => .ok (.var i) st
  | some (.sh _) => .ok (.var i) st
  | some .tape => .ok .tape st
  | _ => .stuck
noncomputable def slotData : Option Slot → Option PyData
  | some (.own x) => some x
  | some (.sh x) => some x
  | _ => none
noncomputable def k2a (op : PyData → PyData → Option (PyData × Bool)) (F2 : EF) : AV → St → Out AV := fun a st => (F2 st).bind fun b st => fin2 ((a.data st).bind fun x => (b.data st).bind fun y => op x y) st
noncomputable def ap2 {α : Type} (op : PyData → PyData → Option α) (a b : Option PyData) : Option α := a.bind fun x => b.bind fun y => op x y
noncomputable def k2b (op : PyData → PyData → Option (PyData × Bool)) (a : AV) : AV → St → Out AV := fun b st => fin2 (ap2 op (a.data st) (b.data st)) st
noncomputable def t2a (op : PyData → PyData → Option Bool) (F2 : EF) : AV → St → Out Bool := fun a st => (F2 st).bind fun b st => finT ((a.data st).bind fun x => (b.data st).bind fun y => op x y) st
noncomputable def t2b (op : PyData → PyData → Option Bool) (a : AV) : AV → St → Out Bool := fun b st => finT (ap2 op (a.data st) (b.data st)) st
noncomputable def ap1 {α : Type} (op : PyData → Option α) (a : Option PyData) : Option α := a.bind op
noncomputable def k1a (op : PyData → Option (PyData × Bool)) : AV → St → Out AV := fun a st => fin2 (ap1 op (a.data st)) st
noncomputable def tOfa : AV → St → Out Bool := fun a st => finT (ap1 truthD (a.data st)) st
noncomputable def tNota : Bool → St → Out Bool := fun b st => .ok (!b) st
noncomputable def tAnda (r : List BF) : Bool → St → Out Bool := fun b st => match b with
  | false => .ok false st
  | true => tAnd r st
noncomputable def tOra (r : List BF) : Bool → St → Out Bool := fun b st => match b with
  | true => .ok true st
  | false => tOr r st
noncomputable def kB2 (and : Bool) (r : List EF) (a : AV) (st : St) : Option Bool → Out AV
  | some b => if b == and then eBool and r st else .ok a st
  | none => .stuck
noncomputable def kBool (and : Bool) (r : List EF) : AV → St → Out AV := fun a st => kB2 and r a st (ap1 truthD (a.data st))
noncomputable def kEvs (r : List EF) : AV → St → Out (List AV) := fun a st => (evs r st).bind fun as st => .ok (a :: as) st
noncomputable def kEvs2 (a : AV) : List AV → St → Out (List AV) := fun as st => .ok (a :: as) st
noncomputable def kList2 (st0 : St) : Option (List PyData × St) → Out AV
  | some (ds, st) => if ds.length ≤ 10000 then .ok (.dat (.list ds) true) st else .stuck
  | none => .stuck
noncomputable def kList : List AV → St → Out AV := fun avs st => kList2 st (shareAll avs st)
noncomputable def kTup2 (st0 : St) : Option (List PyData × St) → Out AV
  | some (ds, st) => if ds.length ≤ 10000 then .ok (.dat (.tuple ds) false) st else .stuck
  | none => .stuck
noncomputable def kTup : List AV → St → Out AV := fun avs st => kTup2 st (shareAll avs st)
noncomputable def kCall2 (Φ : Fn) : Option (List Arg × St) → Out AV
  | some (args, st) => (Φ args st.ts).out st
  | none => .stuck
noncomputable def kCall (Φ : Fn) : List AV → St → Out AV := fun avs st => kCall2 Φ (argAll avs st)
noncomputable def kSh2 (r : List AV) (o : Option (PyData × St)) : Option (List PyData × St) := o.bind fun p => (shareAll r p.2).bind fun q => some (p.1 :: q.1, q.2)
noncomputable def kSh3 (x : PyData) (o : Option (List PyData × St)) : Option (List PyData × St) := o.bind fun q => some (x :: q.1, q.2)
noncomputable def kAr2 (r : List AV) (o : Option (Arg × St)) : Option (List Arg × St) := o.bind fun p => (argAll r p.2).bind fun q => some (p.1 :: q.1, q.2)
noncomputable def kAr3 (x : Arg) (o : Option (List Arg × St)) : Option (List Arg × St) := o.bind fun q => some (x :: q.1, q.2)
noncomputable def slotShare (i : Nat) (st : St) : Option Slot → Option (PyData × St)
  | some (.own x) => some (x, ⟨st.ρ.set i (.sh x), st.ts⟩)
  | some (.sh x) => some (x, st)
  | _ => none
noncomputable def argK (o : Option (PyData × St)) : Option (Arg × St) := o.map fun p => (.sh p.1, p.2)
noncomputable def kFn1 (op : PyData → Option (PyData × Bool)) : List AV → St → Out AV := fun avs st => fin2 (match avs with | [a] => ap1 op (a.data st) | _ => none) st
noncomputable def kFn2 (op : PyData → PyData → Option (PyData × Bool)) : List AV → St → Out AV := fun avs st => fin2 (match avs with | [a, b] => ap2 op (a.data st) (b.data st) | _ => none) st
noncomputable def kPut3 : Option St → Out SRes
  | some st3 => .ok .next st3
  | none => .stuck
noncomputable def kPut (i : Nat) : Option (Slot × St) → Out SRes
  | some (sl, st2) => kPut3 (putSlot i sl st2)
  | none => .stuck
noncomputable def kAssign (i : Nat) : AV → St → Out SRes := fun av st1 => kPut i (av.put st1)
noncomputable def putK (i : Nat) (sl : Slot) (st : St) : Option Slot → Option St
  | some old => if old.canPut then some ⟨st.ρ.set i sl, st.ts⟩ else none
  | none => none
noncomputable def putA (o : Option (PyData × St)) : Option (Slot × St) := o.map fun p => (.sh p.1, p.2)
noncomputable def retK2 : Option (PyData × Bool × St) → Out SRes
  | some (x, f, st2) => .ok (.ret x f) st2
  | none => .stuck
noncomputable def retK : AV → St → Out SRes := fun av st1 => retK2 (retOf av st1)
noncomputable def slotRet (i : Nat) (st : St) : Option Slot → Option (PyData × Bool × St)
  | some (.own x) => some (x, true, ⟨st.ρ.set i (.sh x), st.ts⟩)
  | some (.sh x) => some (x, false, st)
  | _ => none
noncomputable def augK2 (i : Nat) (a : Int) (st1 : St) : Option PyData → Out SRes
  | some (.int b) => kPut3 (putSlot i (.sh (.int (a + b))) st1)
  | _ => .stuck
noncomputable def augK1 (i : Nat) (a : Int) : AV → St → Out SRes := fun av st1 => augK2 i a st1 (av.data st1)
noncomputable def augK (i : Nat) (F : EF) (st : St) : Option Slot → Out SRes
  | some (.sh (.int a)) => (F st).bind (augK1 i a)
  | _ => .stuck
noncomputable def setK5 (i : Nat) (x k : PyData) (st4 : St) : Option Slot → Out SRes
  | some (.own (.dict kvs)) => if keysOk k kvs && decide (kvs.length ≤ 9999) then .ok .next ⟨st4.ρ.set i (.own (.dict (dset k x kvs))), st4.ts⟩ else .stuck
  | _ => .stuck
noncomputable def setK4 (i : Nat) (x : PyData) : Option (PyData × St) → Out SRes
  | some (k, st4) => setK5 i x k st4 (st4.ρ[i]?)
  | none => .stuck
noncomputable def setK3 (i : Nat) (ak : AV) : Option (PyData × St) → Out SRes
  | some (x, st3) => setK4 i x (ak.share st3)
  | none => .stuck
noncomputable def setK2 (i : Nat) (av : AV) : AV → St → Out SRes := fun ak st2 => setK3 i ak (av.share st2)
noncomputable def setK1 (i : Nat) (Fk : EF) (av : AV) (st1 : St) : Option Slot → Out SRes
  | some (.own (.dict _)) => (Fk st1).bind (setK2 i av)
  | _ => .stuck
noncomputable def setK (i : Nat) (Fk : EF) : AV → St → Out SRes := fun av st1 => setK1 i Fk av st1 (st1.ρ[i]?)
noncomputable def methK4 (i : Nat) (st2 : St) : Option (List PyData) → Out SRes
  | some xs' => .ok .next ⟨st2.ρ.set i (.own (.list xs')), st2.ts⟩
  | none => .stuck
noncomputable def methK3 (i : Nat) (op : List PyData → List PyData → Option (List PyData)) (ds : List PyData) (st2 : St) : Option Slot → Out SRes
  | some (.own (.list xs)) => methK4 i st2 (op xs ds)
  | _ => .stuck
noncomputable def methK2 (i : Nat) (op : List PyData → List PyData → Option (List PyData)) : Option (List PyData × St) → Out SRes
  | some (ds, st2) => methK3 i op ds st2 (st2.ρ[i]?)
  | none => .stuck
noncomputable def methK1 (i : Nat) (op : List PyData → List PyData → Option (List PyData)) : List AV → St → Out SRes := fun avs st1 => methK2 i op (shareAll avs st1)
noncomputable def methK (i : Nat) (op : List PyData → List PyData → Option (List PyData)) (Fs : List EF) (st : St) : Option Slot → Out SRes
  | some (.own (.list _)) => (evs Fs st).bind (methK1 i op)
  | _ => .stuck
noncomputable def loopK2 (store : PyData → St → Option St) (Fb : SF) (xs : List PyData) : SRes → St → Out SRes := fun r st2 => match r with
  | .next => sLoop store Fb xs st2
  | .ret y f => .ok (.ret y f) st2
noncomputable def loopK1 (store : PyData → St → Option St) (Fb : SF) (xs : List PyData) : Option St → Out SRes
  | none => .stuck
  | some st1 => (Fb st1).bind (loopK2 store Fb xs)
noncomputable def forK2 (i : Nat) (store : PyData → St → Option St) (Fb : SF) (st1 : St) : Option Slot → Out SRes
  | some (.own (.list xs)) => sForOwn i store Fb xs st1
  | some (.sh d) => sForD d store Fb st1
  | _ => .stuck
noncomputable def forK (store : PyData → St → Option St) (Fb : SF) : AV → St → Out SRes := fun av st1 => match av with
  | .var i => forK2 i store Fb st1 (st1.ρ[i]?)
  | .dat d _ => sForD d store Fb st1
  | .tape => .stuck
noncomputable def forOwnK (i : Nat) : SRes → St → Out SRes := fun r st2 => match r with
  | .next => unlend i st2
  | .ret y f => .ok (.ret y f) st2
noncomputable def unlendK (i : Nat) (st : St) : Option Slot → Out SRes
  | some (.lent x) => .ok .next ⟨st.ρ.set i (.own x), st.ts⟩
  | _ => .stuck
noncomputable def forRK2 (store : PyData → St → Option St) (Fb : SF) (st1 : St) : Option PyData → Out SRes
  | some (.int m) => if 0 ≤ m ∧ m ≤ 100000 then sLoop store Fb ((List.range m.toNat).map fun (k : Nat) => PyData.int k) st1 else .stuck
  | _ => .stuck
noncomputable def forRK (store : PyData → St → Option St) (Fb : SF) : AV → St → Out SRes := fun av st1 => forRK2 store Fb st1 (av.data st1)
noncomputable def exprK2 (st1 : St) : Option PyData → Out SRes
  | some .none => .ok .next st1
  | _ => .stuck
noncomputable def exprK : AV → St → Out SRes := fun av st1 => exprK2 st1 (av.data st1)
noncomputable def raiseK : AV → St → Out SRes := fun _ _ => .raise
noncomputable def evJK2 (out : Str) (r : List EF) (st : St) : Option PyData → Out AV
  | some (.str x) => if (out ++ x).length ≤ 10000 then evJoin (out ++ x) r st else .stuck
  | _ => .stuck
noncomputable def evJK (out : Str) (r : List EF) : AV → St → Out AV := fun a st => evJK2 out r st (a.data st)
noncomputable def popK2 (st : St) (n : Nat) : List Int → Out AV
  | t :: r => if n ≤ 100000 then .ok (.dat (.int t) false) ⟨st.ρ, r.reverse⟩ else .stuck
  | [] => .stuck
noncomputable def popK (st : St) : Option Slot → Out AV
  | some .tape => popK2 st st.ts.length st.ts.reverse
  | _ => .stuck
noncomputable def okFn : Out SRes → Ret
  | .ok (.ret x f) st => .ok x f st.ts
  | .ok .next st => .ok .none false st.ts
  | .raise => .raise
  | .stuck => .stuck

@[simp] theorem zA (α β : Type) (a : α) (st : St) (f : α → St → Out β) : Out.bind (.ok a st) f = f a st := rfl
@[simp] theorem zB (α β : Type) (f : α → St → Out β) : Out.bind .raise f = .raise := rfl
@[simp] theorem zC (α β : Type) (f : α → St → Out β) : Out.bind .stuck f = .stuck := rfl
@[simp] theorem zD (F1 F2 : SF) (st : St) : sSeq F1 F2 st = (F1 st).bind (kSeq F2) := rfl
@[simp] theorem zE (F2 : SF) (st : St) : kSeq F2 .next st = F2 st := rfl
@[simp] theorem zF (F2 : SF) (st : St) (x : PyData) (f : Bool) : kSeq F2 (.ret x f) st = .ok (.ret x f) st := rfl
@[simp] theorem zG (T : BF) (F1 F2 : SF) (st : St) : sIf T F1 F2 st = (T st).bind (kIf F1 F2) := rfl
@[simp] theorem zH (F1 F2 : SF) (st : St) : kIf F1 F2 true st = F1 st := rfl
@[simp] theorem zI (F1 F2 : SF) (st : St) : kIf F1 F2 false st = F2 st := rfl
@[simp] theorem zJ (T : BF) (F1 F2 : EF) (st : St) : eIf T F1 F2 st = (T st).bind (kEIf F1 F2) := rfl
@[simp] theorem zK (F1 F2 : EF) (st : St) : kEIf F1 F2 true st = F1 st := rfl
@[simp] theorem zL (F1 F2 : EF) (st : St) : kEIf F1 F2 false st = F2 st := rfl
@[simp] theorem zM (st : St) : sNil st = .ok .next st := rfl
@[simp] theorem zN (st : St) : sStuck st = .stuck := rfl
@[simp] theorem zO (x : PyData) (st : St) : eDat x st = .ok (.dat x false) st := rfl
@[simp] theorem zP (i : Nat) (st : St) : eVar i st = kVar i st (st.ρ[i]?) := rfl
@[simp] theorem zQ (i st x) : kVar i st (some (.own x)) = .ok (.var i) st := rfl
@[simp] theorem zR (i st x) : kVar i st (some (.sh x)) = .ok (.var i) st := rfl
@[simp] theorem zS (i st) : kVar i st (some .tape) = .ok .tape st := rfl
@[simp] theorem zT (x : PyData) (f : Bool) (st : St) : AV.data (.dat x f) st = some x := rfl
@[simp] theorem zU (i : Nat) (st : St) : AV.data (.var i) st = slotData (st.ρ[i]?) := rfl
@[simp] theorem zV (st : St) : AV.data .tape st = some (.list (st.ts.map .int)) := rfl
@[simp] theorem zW (x) : slotData (some (.own x)) = some x := rfl
@[simp] theorem zX (x) : slotData (some (.sh x)) = some x := rfl
@[simp] theorem zY (op : PyData → PyData → Option (PyData × Bool)) (F1 F2 : EF) (st : St) : eOp2 op F1 F2 st = (F1 st).bind (k2a op F2) := rfl
@[simp] theorem zZ (op F2 a st) : k2a op F2 a st = (F2 st).bind (k2b op a) := rfl
@[simp] theorem yA (op a b st) : k2b op a b st = fin2 (ap2 op (a.data st) (b.data st)) st := rfl
@[simp] theorem yB (op : PyData → PyData → Option Bool) (F1 F2 : EF) (st : St) : tst2 op F1 F2 st = (F1 st).bind (t2a op F2) := rfl
@[simp] theorem yC (op F2 a st) : t2a op F2 a st = (F2 st).bind (t2b op a) := rfl
@[simp] theorem yD (op a b st) : t2b op a b st = finT (ap2 op (a.data st) (b.data st)) st := rfl
@[simp] theorem yE (op : PyData → PyData → Option (PyData × Bool)) (x y : PyData) : ap2 op (some x) (some y) = op x y := rfl
@[simp] theorem yF (op : PyData → PyData → Option Bool) (x y : PyData) : ap2 op (some x) (some y) = op x y := rfl
@[simp] theorem yG (op : PyData → Option (PyData × Bool)) (x : PyData) : ap1 op (some x) = op x := rfl
@[simp] theorem yH (op : PyData → Option Bool) (x : PyData) : ap1 op (some x) = op x := rfl
@[simp] theorem yI (op : PyData → Option (PyData × Bool)) (F : EF) (st : St) : eOp1 op F st = (F st).bind (k1a op) := rfl
@[simp] theorem yJ (op a st) : k1a op a st = fin2 (ap1 op (a.data st)) st := rfl
@[simp] theorem yK (z : PyData) (f : Bool) (st : St) : fin2 (some (z, f)) st = .ok (.dat z f) st := rfl
@[simp] theorem yL (b : Bool) (st : St) : finT (some b) st = .ok b st := rfl
@[simp] theorem yM (F : EF) (st : St) : tOf F st = (F st).bind tOfa := rfl
@[simp] theorem yN (a st) : tOfa a st = finT (ap1 truthD (a.data st)) st := rfl
@[simp] theorem yO (b) : truthD (.bool b) = some b := rfl
@[simp] theorem yP (F : BF) (st : St) : tNot F st = (F st).bind tNota := rfl
@[simp] theorem yQ (b st) : tNota b st = .ok (!b) st := rfl
@[simp] theorem yR (st : St) : tAnd [] st = .ok true st := rfl
@[simp] theorem yS (F r) (st : St) : tAnd (F :: r) st = (F st).bind (tAnda r) := rfl
@[simp] theorem yT (r st) : tAnda r false st = .ok false st := rfl
@[simp] theorem yU (r st) : tAnda r true st = tAnd r st := rfl
@[simp] theorem yV (st : St) : tOr [] st = .ok false st := rfl
@[simp] theorem yW (F r) (st : St) : tOr (F :: r) st = (F st).bind (tOra r) := rfl
@[simp] theorem yX (r st) : tOra r true st = .ok true st := rfl
@[simp] theorem yY (r st) : tOra r false st = tOr r st := rfl
@[simp] theorem yZ (and F) (st : St) : eBool and [F] st = F st := rfl
@[simp] theorem xA (and F G r) (st : St) : eBool and (F :: G :: r) st = (F st).bind (kBool and (G :: r)) := rfl
@[simp] theorem xB (and r a st) : kBool and r a st = kB2 and r a st (ap1 truthD (a.data st)) := rfl
@[simp] theorem xC (r a st) : kB2 true r a st (some true) = eBool true r st := rfl
@[simp] theorem xD (r a st) : kB2 true r a st (some false) = .ok a st := rfl
@[simp] theorem xE (r a st) : kB2 false r a st (some true) = .ok a st := rfl
@[simp] theorem xF (r a st) : kB2 false r a st (some false) = eBool false r st := rfl
@[simp] theorem xG : (BoolOp.And == BoolOp.And) = true := rfl
@[simp] theorem xH : (BoolOp.Or == BoolOp.And) = false := rfl
@[simp] theorem xI (st) : evs [] st = .ok [] st := rfl
@[simp] theorem xJ (F : EF) (r : List EF) (st : St) : evs (F :: r) st = (F st).bind (kEvs r) := rfl
@[simp] theorem xK (r a st) : kEvs r a st = (evs r st).bind (kEvs2 a) := rfl
@[simp] theorem xL (a as st) : kEvs2 a as st = .ok (a :: as) st := rfl
@[simp] theorem xM (Fs : List EF) (st : St) : eList Fs st = (evs Fs st).bind kList := rfl
@[simp] theorem xN (avs st) : kList avs st = kList2 st (shareAll avs st) := rfl
@[simp] theorem xO (st0 ds st) : kList2 st0 (some (ds, st)) = if ds.length ≤ 10000 then .ok (.dat (.list ds) true) st else .stuck := rfl
@[simp] theorem xP (Fs : List EF) (st : St) : eTuple Fs st = (evs Fs st).bind kTup := rfl
@[simp] theorem xQ (avs st) : kTup avs st = kTup2 st (shareAll avs st) := rfl
@[simp] theorem xR (st0 ds st) : kTup2 st0 (some (ds, st)) = if ds.length ≤ 10000 then .ok (.dat (.tuple ds) false) st else .stuck := rfl
@[simp] theorem xS (Φ : Fn) (Fs : List EF) (st : St) : eCall Φ Fs st = (evs Fs st).bind (kCall Φ) := rfl
@[simp] theorem xT (Φ avs st) : kCall Φ avs st = kCall2 Φ (argAll avs st) := rfl
@[simp] theorem xU (Φ args st) : kCall2 Φ (some (args, st)) = (Φ args st.ts).out st := rfl
@[simp] theorem xV (st) : shareAll [] st = some ([], st) := rfl
@[simp] theorem xW (a r st) : shareAll (a :: r) st = kSh2 r (a.share st) := rfl
@[simp] theorem xX (r x st) : kSh2 r (some (x, st)) = kSh3 x (shareAll r st) := rfl
@[simp] theorem xY (x xs st) : kSh3 x (some (xs, st)) = some (x :: xs, st) := rfl
@[simp] theorem xZ (st) : argAll [] st = some ([], st) := rfl
@[simp] theorem wA (a r st) : argAll (a :: r) st = kAr2 r (a.arg st) := rfl
@[simp] theorem wB (r x st) : kAr2 r (some (x, st)) = kAr3 x (argAll r st) := rfl
@[simp] theorem wC (x xs st) : kAr3 x (some (xs, st)) = some (x :: xs, st) := rfl
@[simp] theorem wD (x f st) : AV.share (.dat x f) st = some (x, st) := rfl
@[simp] theorem wE (i st) : AV.share (.var i) st = slotShare i st (st.ρ[i]?) := rfl
@[simp] theorem wF (i st x) : slotShare i st (some (.own x)) = some (x, ⟨st.ρ.set i (.sh x), st.ts⟩) := rfl
@[simp] theorem wG (i st x) : slotShare i st (some (.sh x)) = some (x, st) := rfl
@[simp] theorem wH (st) : AV.arg .tape st = some (.tape, st) := rfl
@[simp] theorem wI (x f st) : AV.arg (.dat x f) st = some (.sh x, st) := rfl
@[simp] theorem wJ (i st) : AV.arg (.var i) st = argK (slotShare i st (st.ρ[i]?)) := rfl
@[simp] theorem wK (x st) : argK (some (x, st)) = some (.sh x, st) := rfl
@[simp] theorem wL (st : St) (x : PyData) (f : Bool) (ts : List Int) : Ret.out (.ok x f ts) st = .ok (.dat x f) ⟨st.ρ, ts⟩ := rfl
@[simp] theorem wM (st : St) : Ret.out .raise st = .raise := rfl
@[simp] theorem wN (op : PyData → Option (PyData × Bool)) (F : EF) (st : St) : eFn1 op F st = (evs [F] st).bind (kFn1 op) := rfl
@[simp] theorem wO (op a st) : kFn1 op [a] st = fin2 (ap1 op (a.data st)) st := rfl
@[simp] theorem wP (op : PyData → PyData → Option (PyData × Bool)) (F1 F2 : EF) (st : St) : eFn2 op F1 F2 st = (evs [F1, F2] st).bind (kFn2 op) := rfl
@[simp] theorem wQ (op a b st) : kFn2 op [a, b] st = fin2 (ap2 op (a.data st) (b.data st)) st := rfl
@[simp] theorem wR (F1 F2 : EF) (st : St) : eItem F1 F2 st = eOp2 (fun x y => (itemD x y).map fun z => (z, false)) F1 F2 st := rfl
@[simp] theorem wS (T : PyT) (F : EF) (st : St) : eIsi T F st = eOp1 (fun x => (isiD T x).map fun b => (.bool b, false)) F st := rfl
@[simp] theorem wT (i) (F : EF) (st) : sAssign i F st = (F st).bind (kAssign i) := rfl
@[simp] theorem wU (i av st) : kAssign i av st = kPut i (av.put st) := rfl
@[simp] theorem wV (i sl st) : kPut i (some (sl, st)) = kPut3 (putSlot i sl st) := rfl
@[simp] theorem wW (st) : kPut3 (some st) = .ok .next st := rfl
@[simp] theorem wX (i sl st) : putSlot i sl st = putK i sl st (st.ρ[i]?) := rfl
@[simp] theorem wY (i sl st old) : putK i sl st (some old) = if old.canPut then some ⟨st.ρ.set i sl, st.ts⟩ else none := rfl
@[simp] theorem wZ : Slot.canPut .unset = true := rfl
@[simp] theorem vA (x) : Slot.canPut (.own x) = true := rfl
@[simp] theorem vB (x) : Slot.canPut (.sh x) = true := rfl
@[simp] theorem vC (x f st) : AV.put (.dat x f) st = some (if f && ownable x then .own x else .sh x, st) := rfl
@[simp] theorem vD (i st) : AV.put (.var i) st = putA (slotShare i st (st.ρ[i]?)) := rfl
@[simp] theorem vE (x st) : putA (some (x, st)) = some (.sh x, st) := rfl
@[simp] theorem vF (xs) : ownable (.list xs) = true := rfl
@[simp] theorem vG (xs) : ownable (.dict xs) = true := rfl
@[simp] theorem vH (xs) : ownable (.tuple xs) = false := rfl
@[simp] theorem vI (xs) : ownable (.int xs) = false := rfl
@[simp] theorem vJ (xs) : ownable (.str xs) = false := rfl
@[simp] theorem vK (xs) : ownable (.bool xs) = false := rfl
@[simp] theorem vL : ownable .none = false := rfl
@[simp] theorem vM (F : EF) (st) : sRet F st = (F st).bind retK := rfl
@[simp] theorem vN (av st) : retK av st = retK2 (retOf av st) := rfl
@[simp] theorem vO (x f st) : retK2 (some (x, f, st)) = .ok (.ret x f) st := rfl
@[simp] theorem vP (x f st) : retOf (.dat x f) st = some (x, f, st) := rfl
@[simp] theorem vQ (i st) : retOf (.var i) st = slotRet i st (st.ρ[i]?) := rfl
@[simp] theorem vR (i st x) : slotRet i st (some (.own x)) = some (x, true, ⟨st.ρ.set i (.sh x), st.ts⟩) := rfl
@[simp] theorem vS (i st x) : slotRet i st (some (.sh x)) = some (x, false, st) := rfl
@[simp] theorem vT (i F st) : sAug i F st = augK i F st (st.ρ[i]?) := rfl
@[simp] theorem vU (i F st a) : augK i F st (some (.sh (.int a))) = (F st).bind (augK1 i a) := rfl
@[simp] theorem vV (i a av st) : augK1 i a av st = augK2 i a st (av.data st) := rfl
@[simp] theorem vW (i a st b) : augK2 i a st (some (.int b)) = kPut3 (putSlot i (.sh (.int (a + b))) st) := rfl
@[simp] theorem vX (i Fk Fv st) : sSet i Fk Fv st = (Fv st).bind (setK i Fk) := rfl
@[simp] theorem vY (i Fk av st) : setK i Fk av st = setK1 i Fk av st (st.ρ[i]?) := rfl
@[simp] theorem vZ (i Fk av st x) : setK1 i Fk av st (some (.own (.dict x))) = (Fk st).bind (setK2 i av) := rfl
@[simp] theorem uA (i av ak st) : setK2 i av ak st = setK3 i ak (av.share st) := rfl
@[simp] theorem uB (i ak x st) : setK3 i ak (some (x, st)) = setK4 i x (ak.share st) := rfl
@[simp] theorem uC (i x k st) : setK4 i x (some (k, st)) = setK5 i x k st (st.ρ[i]?) := rfl
@[simp] theorem uD (i x k st kvs) : setK5 i x k st (some (.own (.dict kvs))) = if keysOk k kvs && decide (kvs.length ≤ 9999) then .ok .next ⟨st.ρ.set i (.own (.dict (dset k x kvs))), st.ts⟩ else .stuck := rfl
@[simp] theorem uE (i op Fs st) : sMeth i op Fs st = methK i op Fs st (st.ρ[i]?) := rfl
@[simp] theorem uF (i op Fs st xs) : methK i op Fs st (some (.own (.list xs))) = (evs Fs st).bind (methK1 i op) := rfl
@[simp] theorem uG (i op avs st) : methK1 i op avs st = methK2 i op (shareAll avs st) := rfl
@[simp] theorem uH (i op ds st) : methK2 i op (some (ds, st)) = methK3 i op ds st (st.ρ[i]?) := rfl
@[simp] theorem uI (i op ds st xs) : methK3 i op ds st (some (.own (.list xs))) = methK4 i st (op xs ds) := rfl
@[simp] theorem uJ (i st xs) : methK4 i st (some xs) = .ok .next ⟨st.ρ.set i (.own (.list xs)), st.ts⟩ := rfl
@[simp] theorem uK (store Fb st) : sLoop store Fb [] st = .ok .next st := rfl
@[simp] theorem uL (store Fb x xs st) : sLoop store Fb (x :: xs) st = loopK1 store Fb xs (store x st) := rfl
@[simp] theorem uM (store Fb xs st) : loopK1 store Fb xs (some st) = (Fb st).bind (loopK2 store Fb xs) := rfl
@[simp] theorem uN (store Fb xs st) : loopK2 store Fb xs .next st = sLoop store Fb xs st := rfl
@[simp] theorem uO (store Fb xs y f st) : loopK2 store Fb xs (.ret y f) st = .ok (.ret y f) st := rfl
@[simp] theorem uP (i x st) : tName i x st = putSlot i (.sh x) st := rfl
@[simp] theorem uQ (i j a b st) : tPair i j (.tuple [a, b]) st = (putSlot i (.sh a) st).bind (putSlot j (.sh b)) := rfl
@[simp] theorem uR (Fi store Fb st) : sFor Fi store Fb st = (Fi st).bind (forK store Fb) := rfl
@[simp] theorem uS (store Fb i st) : forK store Fb (.var i) st = forK2 i store Fb st (st.ρ[i]?) := rfl
@[simp] theorem uT (store Fb d f st) : forK store Fb (.dat d f) st = sForD d store Fb st := rfl
@[simp] theorem uU (i store Fb st xs) : forK2 i store Fb st (some (.own (.list xs))) = sForOwn i store Fb xs st := rfl
@[simp] theorem uV (i store Fb st d) : forK2 i store Fb st (some (.sh d)) = sForD d store Fb st := rfl
@[simp] theorem uW (xs store Fb st) : sForD (.list xs) store Fb st = sLoop store Fb xs st := rfl
@[simp] theorem uX (xs store Fb st) : sForD (.tuple xs) store Fb st = sLoop store Fb xs st := rfl
@[simp] theorem uY (i store Fb xs st) : sForOwn i store Fb xs st = if st.ρ.all Slot.notLent then (sLoop store Fb xs ⟨st.ρ.set i (.lent (.list xs)), st.ts⟩).bind (forOwnK i) else .stuck := rfl
@[simp] theorem uZ (i st) : forOwnK i .next st = unlendK i st (st.ρ[i]?) := rfl
@[simp] theorem jA (i y f st) : forOwnK i (.ret y f) st = .ok (.ret y f) st := rfl
@[simp] theorem jB (i st x) : unlendK i st (some (.lent x)) = .ok .next ⟨st.ρ.set i (.own x), st.ts⟩ := rfl
@[simp] theorem jC (Fe store Fb st) : sForR Fe store Fb st = (Fe st).bind (forRK store Fb) := rfl
@[simp] theorem jD (store Fb av st) : forRK store Fb av st = forRK2 store Fb st (av.data st) := rfl
@[simp] theorem jE (store Fb st m) : forRK2 store Fb st (some (.int m)) = if 0 ≤ m ∧ m ≤ 100000 then sLoop store Fb ((List.range m.toNat).map fun (k : Nat) => PyData.int k) st else .stuck := rfl
@[simp] theorem jF (F st) : sExpr F st = (F st).bind exprK := rfl
@[simp] theorem jG (av st) : exprK av st = exprK2 st (av.data st) := rfl
@[simp] theorem jH (st) : exprK2 st (some .none) = .ok .next st := rfl
@[simp] theorem jI (F st) : sRaise F st = (F st).bind raiseK := rfl
@[simp] theorem jJ (av st) : raiseK av st = .raise := rfl
@[simp] theorem jK (out st) : evJoin out [] st = .ok (.dat (.str out) false) st := rfl
@[simp] theorem jL (out F r st) : evJoin out (F :: r) st = (F st).bind (evJK out r) := rfl
@[simp] theorem jM (out r a st) : evJK out r a st = evJK2 out r st (a.data st) := rfl
@[simp] theorem jN (out r st x) : evJK2 out r st (some (.str x)) = if (out ++ x).length ≤ 10000 then evJoin (out ++ x) r st else .stuck := rfl
@[simp] theorem jO (i st) : ePop i st = popK st (st.ρ[i]?) := rfl
@[simp] theorem jP (st) : popK st (some .tape) = popK2 st st.ts.length st.ts.reverse := rfl
@[simp] theorem jQ (st n t r) : popK2 st n (t :: r) = if n ≤ 100000 then .ok (.dat (.int t) false) ⟨st.ρ, r.reverse⟩ else .stuck := rfl
@[simp] theorem jR (k nl dflt Fb args ts) : fnOfS k nl dflt Fb args ts = if args.length = k then okFn (Fb ⟨(args ++ dflt).map Arg.slot ++ List.replicate nl .unset, ts⟩) else .stuck := rfl
@[simp] theorem jS (x f st) : okFn (.ok (.ret x f) st) = .ok x f st.ts := rfl
@[simp] theorem jT (st) : okFn (.ok .next st) = .ok .none false st.ts := rfl
@[simp] theorem jU : okFn .raise = .raise := rfl
@[simp] theorem jV (x) : Arg.slot (.sh x) = .sh x := rfl
@[simp] theorem jW : Arg.slot .tape = .tape := rfl
@[simp] theorem ZF : PyData.strOk "label" = true := strOks.1
@[simp] theorem ZG : PyData.strOk "try" = true := strOks.2.1
@[simp] theorem ZH : PyData.strOk "retry" = true := strOks.2.2.1
@[simp] theorem ZI : PyData.strOk "trust" = true := strOks.2.2.2.1
@[simp] theorem ZJ : PyData.strOk "switch_on_term" = true := strOks.2.2.2.2.1
@[simp] theorem ZK : PyData.strOk "switch_on_constant" = true := strOks.2.2.2.2.2.1
@[simp] theorem ZL : PyData.strOk "switch_on_structure" = true := strOks.2.2.2.2.2.2.1
@[simp] theorem ZM : PyData.strOk "call" = true := strOks.2.2.2.2.2.2.2.1
@[simp] theorem ZN : PyData.strOk "get_constant" = true := strOks.2.2.2.2.2.2.2.2.1
@[simp] theorem ZO : PyData.strOk "proceed" = true := strOks.2.2.2.2.2.2.2.2.2.1
@[simp] theorem ZP : PyData.strOk "x" = true := strOks.2.2.2.2.2.2.2.2.2.2.1
@[simp] theorem ZQ : PyData.strOk "y" = true := strOks.2.2.2.2.2.2.2.2.2.2.2.1
@[simp] theorem ZR : PyData.strOk "z" = true := strOks.2.2.2.2.2.2.2.2.2.2.2.2.1
@[simp] theorem ZS : PyData.strOk "R" = true := strOks.2.2.2.2.2.2.2.2.2.2.2.2.2.1
@[simp] theorem ZT : PyData.strOk "X" = true := strOks.2.2.2.2.2.2.2.2.2.2.2.2.2.2.1
@[simp] theorem ZU : PyData.strOk "Y" = true := strOks.2.2.2.2.2.2.2.2.2.2.2.2.2.2.2.1
@[simp] theorem ZV : PyData.strOk "C" = true := strOks.2.2.2.2.2.2.2.2.2.2.2.2.2.2.2.2.1
@[simp] theorem ZW : PyData.strOk "F" = true := strOks.2.2.2.2.2.2.2.2.2.2.2.2.2.2.2.2.2.1
@[simp] theorem ZX : PyData.strOk "N" = true := strOks.2.2.2.2.2.2.2.2.2.2.2.2.2.2.2.2.2.2.1
@[simp] theorem ZY : PyData.strOk "L" = true := strOks.2.2.2.2.2.2.2.2.2.2.2.2.2.2.2.2.2.2.2.1
@[simp] theorem ZZ : PyData.strOk "T" = true := strOks.2.2.2.2.2.2.2.2.2.2.2.2.2.2.2.2.2.2.2.2.1
@[simp] theorem YA : PyData.strOk "U" = true := strOks.2.2.2.2.2.2.2.2.2.2.2.2.2.2.2.2.2.2.2.2.2.1
@[simp] theorem YB : PyData.strOk "get_list" = true := strOks.2.2.2.2.2.2.2.2.2.2.2.2.2.2.2.2.2.2.2.2.2.2.1
@[simp] theorem YC : PyData.strOk "nothing" = true := strOks.2.2.2.2.2.2.2.2.2.2.2.2.2.2.2.2.2.2.2.2.2.2.2.1
@[simp] theorem YD : PyData.strOk "get_variable" = true := strOks.2.2.2.2.2.2.2.2.2.2.2.2.2.2.2.2.2.2.2.2.2.2.2.2.1
@[simp] theorem YE : PyData.strOk "put_unsafe_value" = true := strOks.2.2.2.2.2.2.2.2.2.2.2.2.2.2.2.2.2.2.2.2.2.2.2.2.2.1
@[simp] theorem YF : PyData.strOk "mark" = true := strOks.2.2.2.2.2.2.2.2.2.2.2.2.2.2.2.2.2.2.2.2.2.2.2.2.2.2.1
@[simp] theorem YG : PyData.strOk "execute" = true := strOks.2.2.2.2.2.2.2.2.2.2.2.2.2.2.2.2.2.2.2.2.2.2.2.2.2.2.2
end Mine
namespace Mine
open PySem PySem.W PySem.Calls PyProof.Rows

theorem cmp_eq {x y : PyData} (h : dp 8 x = true) (h2 : dp 8 y = true) : cmpD .Eq x y = some (PyData.eqv x y) := by
  show (if okD x && okD y then _ else _) = _
  rw [okD_dp, okD_dp, h, h2]; rfl
theorem cmp_ne {x y : PyData} (h : dp 8 x = true) (h2 : dp 8 y = true) : cmpD .NotEq x y = some (!PyData.eqv x y) := by
  show (if okD x && okD y then _ else _) = _
  rw [okD_dp, okD_dp, h, h2]; rfl
theorem cmp_inT {x : PyData} {ys : List PyData} (h : dp 8 x = true) (h2 : dAll 7 ys = true) : cmpD .In x (.tuple ys) = some (ys.any fun y => PyData.eqv y x) := by
  show (if okD x && okD (.tuple ys) then _ else _) = _
  rw [okD_dp, okD_dp, h, dp_tuple, h2]; rfl
theorem cmp_inL {x : PyData} {ys : List PyData} (h : dp 8 x = true) (h2 : dAll 7 ys = true) : cmpD .In x (.list ys) = some (ys.any fun y => PyData.eqv y x) := by
  show (if okD x && okD (.list ys) then _ else _) = _
  rw [okD_dp, okD_dp, h, dp_list, h2]; rfl
theorem cmp_ninL {x : PyData} {ys : List PyData} (h : dp 8 x = true) (h2 : dAll 7 ys = true) : cmpD .NotIn x (.list ys) = some (!ys.any fun y => PyData.eqv y x) := by
  show Option.map _ (if okD x && okD (.list ys) then _ else _) = _
  rw [okD_dp, okD_dp, h, dp_list, h2]; rfl
theorem cmp_inD {k : PyData} {kvs : List (PyData × PyData)} (h : keysOk k kvs = true) : cmpD .In k (.dict kvs) = some (dget k kvs).isSome := by
  show (if keysOk k kvs then _ else _) = _
  rw [h]; rfl
theorem cmp_ninD {k : PyData} {kvs : List (PyData × PyData)} (h : keysOk k kvs = true) : cmpD .NotIn k (.dict kvs) = some (!(dget k kvs).isSome) := by
  show Option.map _ (if keysOk k kvs then _ else _) = _
  rw [h]; rfl
theorem item_dict {k : PyData} {kvs : List (PyData × PyData)} (h : keysOk k kvs = true) : itemD (.dict kvs) k = dget k kvs := by
  have : itemD (.dict kvs) k = if keysOk k kvs then dget k kvs else none := by cases k <;> rfl
  rw [this, h]; rfl
@[simp] theorem jX (a b : Int) : cmpD .Lt (.int a) (.int b) = some (decide (a < b)) := rfl
@[simp] theorem jY (a b : Int) : cmpD .LtE (.int a) (.int b) = some (decide (a ≤ b)) := rfl
@[simp] theorem jZ (a b : Int) : cmpD .Gt (.int a) (.int b) = some (decide (b < a)) := rfl
@[simp] theorem qA (a b : Int) : cmpD .GtE (.int a) (.int b) = some (decide (b ≤ a)) := rfl
@[simp] theorem qB (a b : Int) : binD .Add (.int a) (.int b) = some (.int (a + b), false) := rfl
@[simp] theorem qC (a b : Int) : binD .Sub (.int a) (.int b) = some (.int (a - b), false) := rfl
@[simp] theorem qD (a b : Int) : binD .FloorDiv (.int a) (.int b) = if b ≠ 0 ∧ b.natAbs < 1073741824 then some (.int (a.fdiv b), false) else none := rfl
@[simp] theorem qE (a b : Int) : binD .Mod (.int a) (.int b) = if b ≠ 0 then some (.int (a.fmod b), false) else none := rfl
@[simp] theorem qF (a b : Int) : binD .Pow (.int a) (.int b) = if 0 ≤ b ∧ b ≤ 1000 ∧ a.natAbs < 2 ^ 64 then some (.int (a ^ b.toNat), false) else none := rfl
@[simp] theorem qG (a b : List PyData) : binD .Add (.list a) (.list b) = if a.length + b.length ≤ 10000 then some (.list (a ++ b), true) else none := rfl
@[simp] theorem qH (a b : List PyData) : binD .Add (.tuple a) (.tuple b) = if a.length ≠ 0 ∧ a.length + b.length ≤ 10000 then some (.tuple (a ++ b), false) else none := rfl
@[simp] theorem qI (i : Int) : negD (.int i) = some (.int (-i), false) := rfl
@[simp] theorem qJ (b : Bool) : notD (.bool b) = some (.bool (!b), false) := rfl
@[simp] theorem qK (xs) : lenD (.list xs) = if xs.length ≤ 100000 then some ↑xs.length else none := rfl
@[simp] theorem qL (xs) : lenD (.tuple xs) = if xs.length ≤ 100000 then some ↑xs.length else none := rfl
@[simp] theorem qM (xs i) : itemD (.list xs) (.int i) = if 0 ≤ i ∧ i < 100000 then xs[i.toNat]? else none := rfl
@[simp] theorem qN (xs i) : itemD (.tuple xs) (.int i) = if 0 ≤ i ∧ i < 100000 ∧ i < xs.length then xs[i.toNat]? else none := rfl
@[simp] theorem qO (b xs) : upD b (.list xs) = if xs.length ≤ 100000 then some (.list (xs.take b), true) else none := rfl
@[simp] theorem qP (a xs) : fromD a (.tuple xs) = if 1 ≤ a ∧ a ≤ xs.length ∧ xs.length ≤ 100000 then some (.tuple (xs.drop a), false) else none := rfl
@[simp] theorem qQ (xs) : tupD (.list xs) = if xs.length ≤ 100000 then some (.tuple xs, false) else none := rfl
@[simp] theorem qR (xs) : lstD (.list xs) = if xs.length ≤ 100000 then some (.list xs, true) else none := rfl
@[simp] theorem qS (xs) : lstD (.tuple xs) = if xs.length ≤ 100000 then some (.list xs, true) else none := rfl
@[simp] theorem qT (a b : Int) : maxD (.int a) (.int b) = some (.int (if b > a then b else a), false) := rfl
@[simp] theorem qU (xs d) : appendD xs [d] = if xs.length ≤ 9999 then some (xs ++ [d]) else none := rfl
@[simp] theorem qV (xs i d) : insertD xs [.int i, d] = if xs.length ≤ 9999 ∧ 0 ≤ i ∧ i ≤ xs.length then some (xs.take i.toNat ++ d :: xs.drop i.toNat) else none := rfl
@[simp] theorem qX (xs d) : removeD xs [d] = if xs.length ≤ 10000 ∧ okD (.list xs) = true ∧ okD d = true then (xs.findIdx? fun y => PyData.eqv y d).map fun j => xs.eraseIdx j else none := rfl
@[simp] theorem qY (xs) : reverseD xs [] = if xs.length ≤ 10000 then some xs.reverse else none := rfl
@[simp] theorem qZ (a : Int) : fmtD (.int a) = if a.natAbs < 10 ^ 9 then some (.str (Str.ofString (toString a)), false) else none := rfl
@[simp] theorem gA (x : Str) : fmtD (.str x) = if x.length ≤ 1000 then some (.str x, false) else none := rfl
@[simp] theorem gB (T) : isiD T .none = some false := rfl
@[simp] theorem gC (b) : isiD .int (.bool b) = some true := rfl
@[simp] theorem gD (b) : isiD .bool (.bool b) = some true := rfl
@[simp] theorem gE (b) : isiD .str (.bool b) = some false := rfl
@[simp] theorem gF (b) : isiD .tuple (.bool b) = some false := rfl
@[simp] theorem gG (b) : isiD .int (.int b) = some true := rfl
@[simp] theorem gH (b) : isiD .bool (.int b) = some false := rfl
@[simp] theorem gI (b) : isiD .str (.int b) = some false := rfl
@[simp] theorem gJ (b) : isiD .tuple (.int b) = some false := rfl
@[simp] theorem gK (b) : isiD .int (.str b) = some false := rfl
@[simp] theorem gL (b) : isiD .bool (.str b) = some false := rfl
@[simp] theorem gM (b) : isiD .str (.str b) = some true := rfl
@[simp] theorem gN (b) : isiD .tuple (.str b) = some false := rfl
@[simp] theorem gO (b) : isiD .int (.tuple b) = some false := rfl
@[simp] theorem gP (b) : isiD .bool (.tuple b) = some false := rfl
@[simp] theorem gQ (b) : isiD .str (.tuple b) = some false := rfl
@[simp] theorem gR (b) : isiD .tuple (.tuple b) = some true := rfl
@[simp] theorem gS (T b) : isiD T (.list b) = some false := rfl
theorem EDQ : (∀ a b : Int, PyData.eqv (.int a) (.int b) = decide (a = b)) ∧ (∀ a b : Str, PyData.eqv (.str a) (.str b) = decide (a = b)) ∧ (∀ a b, PyData.eqv (.tuple a) (.tuple b) = PyData.eqvAll a b) ∧ (∀ a b, PyData.eqv (.list a) (.list b) = PyData.eqvAll a b) ∧
  (PyData.eqvAll [] [] = true) ∧ (∀ x xs, PyData.eqvAll [] (x :: xs) = false) ∧ (∀ x xs, PyData.eqvAll (x :: xs) [] = false) ∧ (∀ x xs y ys, PyData.eqvAll (x :: xs) (y :: ys) = (PyData.eqv x y && PyData.eqvAll xs ys)) ∧
  (∀ a b, PyData.eqv (.int a) (.str b) = false) ∧ (∀ a b, PyData.eqv (.int a) (.tuple b) = false) ∧ (∀ a b, PyData.eqv (.int a) (.list b) = false) ∧ (∀ a b, PyData.eqv (.str a) (.int b) = false) ∧ (∀ a b, PyData.eqv (.str a) (.tuple b) = false) ∧ (∀ a b, PyData.eqv (.str a) (.list b) = false) ∧
  (∀ a b, PyData.eqv (.tuple a) (.int b) = false) ∧ (∀ a b, PyData.eqv (.tuple a) (.str b) = false) ∧ (∀ a b, PyData.eqv (.tuple a) (.list b) = false) ∧ (∀ a b, PyData.eqv (.list a) (.int b) = false) ∧ (∀ a b, PyData.eqv (.list a) (.str b) = false) ∧ (∀ a b, PyData.eqv (.list a) (.tuple b) = false) ∧
  (∀ a, PyData.eqv .none (.int a) = false) ∧ (∀ a, PyData.eqv .none (.str a) = false) ∧ (∀ a, PyData.eqv .none (.tuple a) = false) ∧ (∀ a, PyData.eqv .none (.list a) = false) ∧ (∀ a, PyData.eqv (.int a) .none = false) ∧ (∀ a, PyData.eqv (.str a) .none = false) ∧ (∀ a, PyData.eqv (.tuple a) .none = false) ∧ (∀ a, PyData.eqv (.list a) .none = false) := by
  refine ⟨eqv_int, eqv_str, ?_, ?_, ?_, ?_, ?_, ?_, ?_, ?_, ?_, ?_, ?_, ?_, ?_, ?_, ?_, ?_, ?_, ?_, ?_, ?_, ?_, ?_, ?_, ?_, ?_, ?_⟩ <;> (intros; simp only [PyData.eqv, PyData.eqvAll])
theorem EDP : (∀ k xs, dp (k + 1) (.tuple xs) = dAll k xs) ∧ (∀ k xs, dp (k + 1) (.list xs) = dAll k xs) ∧ (∀ k i, dp k (.int i) = true) ∧ (∀ k, dp k .none = true) ∧ (∀ k b, dp k (.bool b) = true) ∧ (∀ k x, dp k (.str x) = PyData.strOk x) ∧ (∀ k, dAll k [] = true) ∧ (∀ k x xs, dAll k (x :: xs) = (dp k x && dAll k xs)) ∧ (∀ (k : Nat) (ts : List Int), dAll k (ts.map .int) = true) :=
  ⟨dp_tuple, dp_list, dp_int, dp_none, dp_bool, dp_str, dAll_nil, dAll_cons, dAll_ints⟩
@[simp] theorem gT : ∀ a b : Int, PyData.eqv (.int a) (.int b) = decide (a = b) := EDQ.1
@[simp] theorem gU : ∀ a b : Str, PyData.eqv (.str a) (.str b) = decide (a = b) := EDQ.2.1
@[simp] theorem gV : ∀ a b, PyData.eqv (.tuple a) (.tuple b) = PyData.eqvAll a b := EDQ.2.2.1
@[simp] theorem gW : ∀ a b, PyData.eqv (.list a) (.list b) = PyData.eqvAll a b := EDQ.2.2.2.1
@[simp] theorem gX : PyData.eqvAll [] [] = true := EDQ.2.2.2.2.1
@[simp] theorem gY : ∀ x xs, PyData.eqvAll [] (x :: xs) = false := EDQ.2.2.2.2.2.1
@[simp] theorem gZ : ∀ x xs, PyData.eqvAll (x :: xs) [] = false := EDQ.2.2.2.2.2.2.1
@[simp] theorem fA : ∀ x xs y ys, PyData.eqvAll (x :: xs) (y :: ys) = (PyData.eqv x y && PyData.eqvAll xs ys) := EDQ.2.2.2.2.2.2.2.1
@[simp] theorem fB : ∀ a b, PyData.eqv (.int a) (.str b) = false := EDQ.2.2.2.2.2.2.2.2.1
@[simp] theorem fC : ∀ a b, PyData.eqv (.int a) (.tuple b) = false := EDQ.2.2.2.2.2.2.2.2.2.1
@[simp] theorem fD : ∀ a b, PyData.eqv (.int a) (.list b) = false := EDQ.2.2.2.2.2.2.2.2.2.2.1
@[simp] theorem fE : ∀ a b, PyData.eqv (.str a) (.int b) = false := EDQ.2.2.2.2.2.2.2.2.2.2.2.1
@[simp] theorem fF : ∀ a b, PyData.eqv (.str a) (.tuple b) = false := EDQ.2.2.2.2.2.2.2.2.2.2.2.2.1
@[simp] theorem fG : ∀ a b, PyData.eqv (.str a) (.list b) = false := EDQ.2.2.2.2.2.2.2.2.2.2.2.2.2.1
@[simp] theorem fH : ∀ a b, PyData.eqv (.tuple a) (.int b) = false := EDQ.2.2.2.2.2.2.2.2.2.2.2.2.2.2.1
@[simp] theorem fJ : ∀ a b, PyData.eqv (.tuple a) (.str b) = false := EDQ.2.2.2.2.2.2.2.2.2.2.2.2.2.2.2.1
@[simp] theorem fK : ∀ a b, PyData.eqv (.tuple a) (.list b) = false := EDQ.2.2.2.2.2.2.2.2.2.2.2.2.2.2.2.2.1
@[simp] theorem fL : ∀ a b, PyData.eqv (.list a) (.int b) = false := EDQ.2.2.2.2.2.2.2.2.2.2.2.2.2.2.2.2.2.1
@[simp] theorem fM : ∀ a b, PyData.eqv (.list a) (.str b) = false := EDQ.2.2.2.2.2.2.2.2.2.2.2.2.2.2.2.2.2.2.1
@[simp] theorem fN : ∀ a b, PyData.eqv (.list a) (.tuple b) = false := EDQ.2.2.2.2.2.2.2.2.2.2.2.2.2.2.2.2.2.2.2.1
@[simp] theorem fO : ∀ a, PyData.eqv .none (.int a) = false := EDQ.2.2.2.2.2.2.2.2.2.2.2.2.2.2.2.2.2.2.2.2.1
@[simp] theorem fP : ∀ a, PyData.eqv .none (.str a) = false := EDQ.2.2.2.2.2.2.2.2.2.2.2.2.2.2.2.2.2.2.2.2.2.1
@[simp] theorem fQ : ∀ a, PyData.eqv .none (.tuple a) = false := EDQ.2.2.2.2.2.2.2.2.2.2.2.2.2.2.2.2.2.2.2.2.2.2.1
@[simp] theorem fR : ∀ a, PyData.eqv .none (.list a) = false := EDQ.2.2.2.2.2.2.2.2.2.2.2.2.2.2.2.2.2.2.2.2.2.2.2.1
@[simp] theorem fS : ∀ a, PyData.eqv (.int a) .none = false := EDQ.2.2.2.2.2.2.2.2.2.2.2.2.2.2.2.2.2.2.2.2.2.2.2.2.1
@[simp] theorem fT : ∀ a, PyData.eqv (.str a) .none = false := EDQ.2.2.2.2.2.2.2.2.2.2.2.2.2.2.2.2.2.2.2.2.2.2.2.2.2.1
@[simp] theorem fU : ∀ a, PyData.eqv (.tuple a) .none = false := EDQ.2.2.2.2.2.2.2.2.2.2.2.2.2.2.2.2.2.2.2.2.2.2.2.2.2.2.1
@[simp] theorem fV : ∀ a, PyData.eqv (.list a) .none = false := EDQ.2.2.2.2.2.2.2.2.2.2.2.2.2.2.2.2.2.2.2.2.2.2.2.2.2.2.2
@[simp] theorem fW : ∀ k xs, dp (k + 1) (.tuple xs) = dAll k xs := EDP.1
@[simp] theorem fX : ∀ k xs, dp (k + 1) (.list xs) = dAll k xs := EDP.2.1
@[simp] theorem fY : ∀ k i, dp k (.int i) = true := EDP.2.2.1
@[simp] theorem fZ : ∀ k, dp k .none = true := EDP.2.2.2.1
@[simp] theorem ZA : ∀ k b, dp k (.bool b) = true := EDP.2.2.2.2.1
@[simp] theorem ZB : ∀ k x, dp k (.str x) = PyData.strOk x := EDP.2.2.2.2.2.1
@[simp] theorem ZC : ∀ k, dAll k [] = true := EDP.2.2.2.2.2.2.1
@[simp] theorem ZD : ∀ k x xs, dAll k (x :: xs) = (dp k x && dAll k xs) := EDP.2.2.2.2.2.2.2.1
@[simp] theorem ZE : ∀ (k : Nat) (ts : List Int), dAll k (ts.map .int) = true := EDP.2.2.2.2.2.2.2.2
@[simp high] theorem sl0 (a : Slot) (l : List Slot) : (a :: l)[0]? = some a := rfl
@[simp high] theorem sl1 (a b : Slot) (l : List Slot) : (a :: b :: l)[1]? = some b := rfl
@[simp high] theorem sl2 (a b c : Slot) (l : List Slot) : (a :: b :: c :: l)[2]? = some c := rfl
@[simp high] theorem sl3 (a b c d : Slot) (l : List Slot) : (a :: b :: c :: d :: l)[3]? = some d := rfl
@[simp high] theorem sl4 (a b c d e : Slot) (l : List Slot) : (a :: b :: c :: d :: e :: l)[4]? = some e := rfl
@[simp high] theorem sl5 (a b c d e f : Slot) (l : List Slot) : (a :: b :: c :: d :: e :: f :: l)[5]? = some f := rfl
@[simp high] theorem sl6 (a b c d e f g : Slot) (l : List Slot) : (a :: b :: c :: d :: e :: f :: g :: l)[6]? = some g := rfl
@[simp high] theorem sl7 (a b c d e f g h : Slot) (l : List Slot) : (a :: b :: c :: d :: e :: f :: g :: h :: l)[7]? = some h := rfl
@[simp high] theorem sl8 (a b c d e f g h i : Slot) (l : List Slot) : (a :: b :: c :: d :: e :: f :: g :: h :: i :: l)[8]? = some i := rfl
@[simp high] theorem ss0 (a x : Slot) (l : List Slot) : (a :: l).set 0 x = x :: l := rfl
@[simp high] theorem ss1 (a b x : Slot) (l : List Slot) : (a :: b :: l).set 1 x = a :: x :: l := rfl
@[simp high] theorem ss2 (a b c x : Slot) (l : List Slot) : (a :: b :: c :: l).set 2 x = a :: b :: x :: l := rfl
@[simp high] theorem ss3 (a b c d x : Slot) (l : List Slot) : (a :: b :: c :: d :: l).set 3 x = a :: b :: c :: x :: l := rfl
@[simp high] theorem ss4 (a b c d e x : Slot) (l : List Slot) : (a :: b :: c :: d :: e :: l).set 4 x = a :: b :: c :: d :: x :: l := rfl
@[simp high] theorem ss5 (a b c d e f x : Slot) (l : List Slot) : (a :: b :: c :: d :: e :: f :: l).set 5 x = a :: b :: c :: d :: e :: x :: l := rfl
@[simp high] theorem ss6 (a b c d e f g x : Slot) (l : List Slot) : (a :: b :: c :: d :: e :: f :: g :: l).set 6 x = a :: b :: c :: d :: e :: f :: x :: l := rfl
@[simp high] theorem ss7 (a b c d e f g h x : Slot) (l : List Slot) : (a :: b :: c :: d :: e :: f :: g :: h :: l).set 7 x = a :: b :: c :: d :: e :: f :: g :: x :: l := rfl
@[simp high] theorem ss8 (a b c d e f g h i x : Slot) (l : List Slot) : (a :: b :: c :: d :: e :: f :: g :: h :: i :: l).set 8 x = a :: b :: c :: d :: e :: f :: g :: h :: x :: l := rfl
@[simp high] theorem putOwn (i : Nat) (sl : Slot) (st : St) (x : PyData) : putK i sl st (some (.own x)) = some ⟨st.ρ.set i sl, st.ts⟩ := rfl
@[simp high] theorem putSh (i : Nat) (sl : Slot) (st : St) (x : PyData) : putK i sl st (some (.sh x)) = some ⟨st.ρ.set i sl, st.ts⟩ := rfl
@[simp high] theorem putUn (i : Nat) (sl : Slot) (st : St) : putK i sl st (some .unset) = some ⟨st.ρ.set i sl, st.ts⟩ := rfl
@[simp high] theorem kl0 (st0 st : St) : kList2 st0 (some ([], st)) = .ok (.dat (.list []) true) st := rfl
@[simp high] theorem kt0 (st0 st : St) : kTup2 st0 (some ([], st)) = .ok (.dat (.tuple []) false) st := rfl
@[simp high] theorem le0 : lenD (.tuple []) = some 0 := rfl
@[simp high] theorem kl1 (a : PyData) (st0 st : St) : kList2 st0 (some ([a], st)) = .ok (.dat (.list [a]) true) st := rfl
@[simp high] theorem kt1 (a : PyData) (st0 st : St) : kTup2 st0 (some ([a], st)) = .ok (.dat (.tuple [a]) false) st := rfl
@[simp high] theorem le1 (a : PyData) : lenD (.tuple [a]) = some 1 := rfl
@[simp high] theorem it10 (a : PyData) : itemD (.tuple [a]) (.int 0) = some a := rfl
@[simp high] theorem kl2 (a b : PyData) (st0 st : St) : kList2 st0 (some ([a, b], st)) = .ok (.dat (.list [a, b]) true) st := rfl
@[simp high] theorem kt2 (a b : PyData) (st0 st : St) : kTup2 st0 (some ([a, b], st)) = .ok (.dat (.tuple [a, b]) false) st := rfl
@[simp high] theorem le2 (a b : PyData) : lenD (.tuple [a, b]) = some 2 := rfl
@[simp high] theorem it20 (a b : PyData) : itemD (.tuple [a, b]) (.int 0) = some a := rfl
@[simp high] theorem it21 (a b : PyData) : itemD (.tuple [a, b]) (.int 1) = some b := rfl
@[simp high] theorem kl3 (a b c : PyData) (st0 st : St) : kList2 st0 (some ([a, b, c], st)) = .ok (.dat (.list [a, b, c]) true) st := rfl
@[simp high] theorem kt3 (a b c : PyData) (st0 st : St) : kTup2 st0 (some ([a, b, c], st)) = .ok (.dat (.tuple [a, b, c]) false) st := rfl
@[simp high] theorem le3 (a b c : PyData) : lenD (.tuple [a, b, c]) = some 3 := rfl
@[simp high] theorem it30 (a b c : PyData) : itemD (.tuple [a, b, c]) (.int 0) = some a := rfl
@[simp high] theorem it31 (a b c : PyData) : itemD (.tuple [a, b, c]) (.int 1) = some b := rfl
@[simp high] theorem it32 (a b c : PyData) : itemD (.tuple [a, b, c]) (.int 2) = some c := rfl
@[simp high] theorem kl4 (a b c d : PyData) (st0 st : St) : kList2 st0 (some ([a, b, c, d], st)) = .ok (.dat (.list [a, b, c, d]) true) st := rfl
@[simp high] theorem kt4 (a b c d : PyData) (st0 st : St) : kTup2 st0 (some ([a, b, c, d], st)) = .ok (.dat (.tuple [a, b, c, d]) false) st := rfl
@[simp high] theorem le4 (a b c d : PyData) : lenD (.tuple [a, b, c, d]) = some 4 := rfl
@[simp high] theorem it40 (a b c d : PyData) : itemD (.tuple [a, b, c, d]) (.int 0) = some a := rfl
@[simp high] theorem it41 (a b c d : PyData) : itemD (.tuple [a, b, c, d]) (.int 1) = some b := rfl
@[simp high] theorem it42 (a b c d : PyData) : itemD (.tuple [a, b, c, d]) (.int 2) = some c := rfl
@[simp high] theorem it43 (a b c d : PyData) : itemD (.tuple [a, b, c, d]) (.int 3) = some d := rfl
@[simp high] theorem kl5 (a b c d e : PyData) (st0 st : St) : kList2 st0 (some ([a, b, c, d, e], st)) = .ok (.dat (.list [a, b, c, d, e]) true) st := rfl
@[simp high] theorem kt5 (a b c d e : PyData) (st0 st : St) : kTup2 st0 (some ([a, b, c, d, e], st)) = .ok (.dat (.tuple [a, b, c, d, e]) false) st := rfl
@[simp high] theorem le5 (a b c d e : PyData) : lenD (.tuple [a, b, c, d, e]) = some 5 := rfl
@[simp high] theorem it50 (a b c d e : PyData) : itemD (.tuple [a, b, c, d, e]) (.int 0) = some a := rfl
@[simp high] theorem it51 (a b c d e : PyData) : itemD (.tuple [a, b, c, d, e]) (.int 1) = some b := rfl
@[simp high] theorem it52 (a b c d e : PyData) : itemD (.tuple [a, b, c, d, e]) (.int 2) = some c := rfl
@[simp high] theorem it53 (a b c d e : PyData) : itemD (.tuple [a, b, c, d, e]) (.int 3) = some d := rfl
@[simp high] theorem it54 (a b c d e : PyData) : itemD (.tuple [a, b, c, d, e]) (.int 4) = some e := rfl
@[simp high] theorem cmpIE (a b : Int) : cmpD .Eq (.int a) (.int b) = some (decide (a = b)) := by rw [cmp_eq (dp_int 8 a) (dp_int 8 b), eqv_int]
@[simp high] theorem cmpIN (a b : Int) : cmpD .NotEq (.int a) (.int b) = some (!decide (a = b)) := by rw [cmp_ne (dp_int 8 a) (dp_int 8 b), eqv_int]
@[simp high] theorem cmpSE {a b : Str} (ha : PyData.strOk a = true) (hb : PyData.strOk b = true) : cmpD .Eq (.str a) (.str b) = some (decide (a = b)) := by rw [cmp_eq ((dp_str 8 a).trans ha) ((dp_str 8 b).trans hb), eqv_str]
@[simp high] theorem cmpSN {a b : Str} (ha : PyData.strOk a = true) (hb : PyData.strOk b = true) : cmpD .NotEq (.str a) (.str b) = some (!decide (a = b)) := by rw [cmp_ne ((dp_str 8 a).trans ha) ((dp_str 8 b).trans hb), eqv_str]

inductive Row where
  | lab (k : Int)
  | try_ (l n : Int)
  | retry (l : Int)
  | trust (l : Int)
  | term (a b c d : Int)
  | con (ps : List ((Int × Int) × Int)) (l : Int)
  | str (ps : List (Int × Int)) (l : Int)
  | call (a b : Int)
  | getc (v r : Int)
  | proc
  | bad (x : PyData) (lab : Bool)
noncomputable def badL : List PyData := [.tuple [.str "try", .int 0], .tuple [.str "call", .int (-1), .int 0], .tuple [.str "get_list", .tuple [.str "y", .int 1]], .tuple [.str "nothing"],
  .tuple [.str "get_constant", .tuple [.int 0, .int 1], .tuple [.str "x", .int 1]], .tuple [.str "get_variable", .tuple [.str "x", .int 0], .tuple [.str "x", .int 1]], .tuple [.str "switch_on_constant", .list [], .int (-1)],
  .tuple [.str "label", .int (-1)], .tuple [], .tuple [.str "put_unsafe_value", .tuple [.str "x", .int 1], .tuple [.str "x", .int 2]], .tuple [.str "try", .int (-2), .int 1], .tuple [.str "proceed", .int 0], .tuple [.str "mark", .tuple [.str "z", .int 1]],
  .tuple [.str "switch_on_structure", .tuple [.tuple [.int (-1), .int (-1)]], .int (-1)], .tuple [.str "switch_on_constant", .tuple [.tuple [.tuple [.int 0, .int 1], .int (-1)]], .int (-1)], .tuple [.str "execute", .none]]
noncomputable def badP : List (PyData × Bool) := [(.tuple [.str "try", .int 0], false), (.tuple [.str "call", .int (-1), .int 0], false), (.tuple [.str "get_list", .tuple [.str "y", .int 1]], false), (.tuple [.str "nothing"], false),
  (.tuple [.str "get_constant", .tuple [.int 0, .int 1], .tuple [.str "x", .int 1]], false), (.tuple [.str "get_variable", .tuple [.str "x", .int 0], .tuple [.str "x", .int 1]], false), (.tuple [.str "switch_on_constant", .list [], .int (-1)], false),
  (.tuple [.str "label", .int (-1)], true), (.tuple [], false), (.tuple [.str "put_unsafe_value", .tuple [.str "x", .int 1], .tuple [.str "x", .int 2]], false), (.tuple [.str "try", .int (-2), .int 1], false), (.tuple [.str "proceed", .int 0], false), (.tuple [.str "mark", .tuple [.str "z", .int 1]], false),
  (.tuple [.str "switch_on_structure", .tuple [.tuple [.int (-1), .int (-1)]], .int (-1)], false), (.tuple [.str "switch_on_constant", .tuple [.tuple [.tuple [.int 0, .int 1], .int (-1)]], .int (-1)], false), (.tuple [.str "execute", .none], false)]
theorem badP_L : badP.map (·.1) = badL := rfl
theorem badP_mem {x : PyData} {b : Bool} (h : (x, b) ∈ badP) : x ∈ badL := by rw [← badP_L]; exact List.mem_map.mpr ⟨_, h, rfl⟩
noncomputable def ckey (p : (Int × Int) × Int) : PyData := .tuple [.tuple [.int p.1.1, .int p.1.2], .int p.2]
noncomputable def skey (p : Int × Int) : PyData := .tuple [.int p.1, .int p.2]
noncomputable def Row.enc : Row → PyData
  | .lab k => .tuple [.str "label", .int k]
  | .try_ l n => .tuple [.str "try", .int l, .int n]
  | .retry l => .tuple [.str "retry", .int l]
  | .trust l => .tuple [.str "trust", .int l]
  | .term a b c d => .tuple [.str "switch_on_term", .int a, .int b, .int c, .int d]
  | .con ps l => .tuple [.str "switch_on_constant", .tuple (ps.map ckey), .int l]
  | .str ps l => .tuple [.str "switch_on_structure", .tuple (ps.map skey), .int l]
  | .call a b => .tuple [.str "call", .int a, .int b]
  | .getc v r => .tuple [.str "get_constant", .tuple [.int 5, .int v], .tuple [.str "x", .int r]]
  | .proc => .tuple [.str "proceed"]
  | .bad x b => x
noncomputable def LOk (l : Int) : Prop := -1 ≤ l ∧ l ≤ 9
theorem below_all (n : Nat) {m : Int} (h0 : 0 ≤ m) (h1 : m < n) (P : Int → Prop) (h : ∀ k, k < n → P (k : Nat)) : P m := by
  obtain ⟨k, rfl⟩ := Int.eq_ofNat_of_zero_le h0
  exact h k (Int.ofNat_lt.mp h1)
noncomputable def Row.Ok : Row → Prop
  | .lab k => 0 ≤ k ∧ k ≤ 9
  | .try_ l n => LOk l ∧ 0 ≤ n
  | .retry l => LOk l
  | .trust l => LOk l
  | .term a b c d => LOk a ∧ LOk b ∧ LOk c ∧ LOk d
  | .con ps l => LOk l ∧ ps.length ≤ 4 ∧ ∀ p ∈ ps, (p.1.1 = 4 ∨ p.1.1 = 5) ∧ LOk p.2
  | .str ps l => LOk l ∧ ps.length ≤ 4 ∧ ∀ p ∈ ps, 0 ≤ p.1 ∧ LOk p.2
  | .call a b => 0 ≤ a ∧ 0 ≤ b
  | .getc v r => 1 ≤ r
  | .proc => True
  | .bad x b => (x, b) ∈ badP
noncomputable def Row.isLab : Row → Bool
  | .lab k => true
  | .try_ l n => false
  | .retry l => false
  | .trust l => false
  | .term a b c d => false
  | .con ps l => false
  | .str ps l => false
  | .call a b => false
  | .getc v r => false
  | .proc => false
  | .bad x b => false
noncomputable def Row.isBad : Row → Bool
  | .lab k => false
  | .try_ l n => false
  | .retry l => false
  | .trust l => false
  | .term a b c d => false
  | .con ps l => false
  | .str ps l => false
  | .call a b => false
  | .getc v r => false
  | .proc => false
  | .bad x b => true
noncomputable def Row.looksLab : Row → Bool
  | .lab k => true
  | .try_ l n => false
  | .retry l => false
  | .trust l => false
  | .term a b c d => false
  | .con ps l => false
  | .str ps l => false
  | .call a b => false
  | .getc v r => false
  | .proc => false
  | .bad x b => b
theorem dAll_ckey (k : Nat) (ps : List ((Int × Int) × Int)) : dAll (k + 2) (ps.map ckey) = true := dAll_of fun x hx => by
  obtain ⟨p, _, rfl⟩ := List.mem_map.mp hx
  simp only [ckey, dp_tuple, dAll_cons, dp_int, dAll_nil, Bool.and_self]
theorem dAll_skey (k : Nat) (ps : List (Int × Int)) : dAll (k + 2) (ps.map skey) = true := dAll_of fun x hx => by
  obtain ⟨p, _, rfl⟩ := List.mem_map.mp hx
  simp only [skey, dp_tuple, dAll_cons, dp_int, dAll_nil, Bool.and_self]
theorem dp_bad : badL.all (dp 6) = true := by
  simp only [badL, List.all_cons, List.all_nil, fW, fX, fY, fZ, ZA, ZB, ZC, ZD, ZE, ZF, ZG, ZH, ZI, ZJ, ZK, ZL, ZM, ZN, ZO, ZP, ZQ, ZR, ZS, ZT, ZU, ZV, ZW, ZX, ZY, ZZ, YA, YB, YC, YD, YE, YF, YG, Bool.and_self]
theorem dp_enc {r : Row} (h : r.Ok) : dp 6 r.enc = true := by
  cases r with
  | bad x b => exact List.all_eq_true.mp dp_bad _ (badP_mem h)
  | _ => simp only [Row.enc, fW, fX, fY, fZ, ZA, ZB, ZC, ZD, ZE, ZF, ZG, ZH, ZI, ZJ, ZK, ZL, ZM, ZN, ZO, ZP, ZQ, ZR, ZS, ZT, ZU, ZV, ZW, ZX, ZY, ZZ, YA, YB, YC, YD, YE, YF, YG, Bool.and_self, dAll_ckey, dAll_skey]
theorem dp_up {k m : Nat} (h : k ≤ m) {x : PyData} (e : dp k x = true) : dp m x = true := by
  simp only [dp, Bool.and_eq_true, decide_eq_true_eq] at e ⊢
  exact ⟨e.1, Nat.le_trans e.2 h⟩
theorem dp8_enc {r : Row} (h : r.Ok) : dp 8 r.enc = true := dp_up (by decide) (dp_enc h)
theorem dAll_rows {rs : List Row} (h : ∀ r ∈ rs, r.Ok) : dAll 7 (rs.map Row.enc) = true := dAll_of fun x hx => by
  obtain ⟨r, hr, rfl⟩ := List.mem_map.mp hx
  exact dp_up (by decide) (dp_enc (h r hr))
theorem dAll_bad : dAll 7 badL = true := dAll_of fun x hx => dp_up (by decide) (List.all_eq_true.mp dp_bad x hx)

theorem law_bad_ev (ts : List Int) : fn_law_bad [] ts = .ok (.list badL) true ts := by
  rfl
theorem islab_bad (ts : List Int) : ∀ p ∈ badP, fn_is_label_row [.sh p.1] ts = .ok (.bool p.2) false ts := by
  simp only [badP, List.forall_mem_cons]
  refine ⟨?_, ?_, ?_, ?_, ?_, ?_, ?_, ?_, ?_, ?_, ?_, ?_, ?_, ?_, ?_, ?_, fun _ h => by cases h⟩ <;> kernel_rfl
theorem islab_ev {r : Row} (h : r.Ok) (ts : List Int) : fn_is_label_row [.sh r.enc] ts = .ok (.bool r.looksLab) false ts := by
  cases r with
  | bad x b => exact islab_bad ts (x, b) h
  | _ => kernel_rfl
end Mine
namespace Mine
open PySem PySem.W PySem.Calls PyProof.Rows

theorem lt9 {m : Int} (h0 : 0 ≤ m) (h1 : m < 9) : m = 0 ∨ m = 1 ∨ m = 2 ∨ m = 3 ∨ m = 4 ∨ m = 5 ∨ m = 6 ∨ m = 7 ∨ m = 8 :=
  below_all 9 h0 h1 (fun m => m = 0 ∨ m = 1 ∨ m = 2 ∨ m = 3 ∨ m = 4 ∨ m = 5 ∨ m = 6 ∨ m = 7 ∨ m = 8) (by decide)
theorem loop_name {i : Nat} {x : PyData} {xs : List PyData} {B : SF} {st st1 : St} {sl : Slot} (h1 : st.ρ[i]? = some sl) (h2 : sl.canPut = true) (h3 : (⟨st.ρ.set i (.sh x), st.ts⟩ : St) = st1) : sLoop (tName i) B (x :: xs) st = (B st1).bind (loopK2 (tName i) B xs) := by
  subst h3
  show loopK1 _ _ _ (putSlot i (.sh x) st) = _
  rw [wX, h1, wY, if_pos h2]
  rfl
theorem loop_pair {i j : Nat} {x y : PyData} {xs : List PyData} {B : SF} {st st1 : St} {sl sl2 : Slot} (h1 : st.ρ[i]? = some sl) (h2 : sl.canPut = true) (h4 : (st.ρ.set i (.sh x))[j]? = some sl2) (h5 : sl2.canPut = true) (h3 : (⟨(st.ρ.set i (.sh x)).set j (.sh y), st.ts⟩ : St) = st1) : sLoop (tPair i j) B (.tuple [x, y] :: xs) st = (B st1).bind (loopK2 (tPair i j) B xs) := by
  subst h3
  show loopK1 _ _ _ ((putSlot i (.sh x) st).bind fun st1 => putSlot j (.sh y) st1) = _
  rw [wX, h1, wY, if_pos h2]
  show loopK1 _ _ _ (putSlot j (.sh y) ⟨_, _⟩) = _
  rw [wX, h4, wY, if_pos h5]
  rfl
theorem ifF {t : BF} {A B : SF} {st : St} {r : Out SRes} (h : t st = .ok false st) (k : B st = r) : sSeq (sIf t A sNil) B st = r := by simp only [sSeq, sIf, h, Out.bind, sNil, k]
theorem ifT {t : BF} {A B : SF} {st : St} {r : Out SRes} (h : t st = .ok true st) (k : sSeq A B st = r) : sSeq (sIf t A sNil) B st = r := by rw [← k]; simp only [sSeq, sIf, h, Out.bind]
theorem elseF {t : BF} {A B : SF} {st : St} {r : Out SRes} (h : t st = .ok false st) (k : B st = r) : sIf t A B st = r := by simp only [sIf, h, Out.bind, k]
theorem thenT {t : BF} {A B : SF} {st : St} {r : Out SRes} (h : t st = .ok true st) (k : A st = r) : sIf t A B st = r := by simp only [sIf, h, Out.bind, k]
theorem seqN {A B : SF} {st st1 : St} {r : Out SRes} (h : A st = .ok .next st1) (k : B st1 = r) : sSeq A B st = r := by simp only [sSeq, h, Out.bind, k]
theorem seq1 {A : SF} {st st1 : St} (h : A st = .ok .next st1) : sSeq A sNil st = .ok .next st1 := seqN h rfl
theorem meth1 {op : List PyData → List PyData → Option (List PyData)} {F : EF} {st st1 st2 : St} {av : AV} {x : PyData} {xs ys zs : List PyData} {i : Nat} (h5 : st.ρ[i]? = some (.own (.list xs))) (hF : F st = .ok av st1) (hx : av.share st1 = some (x, st2)) (h6 : st2.ρ[i]? = some (.own (.list ys))) (ho : op ys [x] = some zs) {r : Out SRes} (hr : .ok .next ⟨st2.ρ.set i (.own (.list zs)), st2.ts⟩ = r) : sMeth i op [F] st = r := by
  rw [← hr]
  simp [sMeth, h5, evs, hF, Out.bind, shareAll, hx, h6, ho]
theorem app_ok {xs : List PyData} {x : PyData} (h : xs.length ≤ 9999) : appendD xs [x] = some (xs ++ [x]) := by
  show (if _ then _ else _) = _
  rw [if_pos h]
theorem seqX {A B : SF} {st : St} (h : A st = .raise) : sSeq A B st = .raise := by simp only [sSeq, h, Out.bind]
theorem or1 {t : BF} {r : List BF} {st st1 : St} (h : t st = .ok true st1) : tOr (t :: r) st = .ok true st1 := by rw [yW, h]; rfl
theorem or2 {t : BF} {r : List BF} {st st1 : St} {o : Out Bool} (h : t st = .ok false st1) (k : tOr r st1 = o) : tOr (t :: r) st = o := by rw [yW, h]; exact k
theorem seqR {A B : SF} {st st1 : St} {x : PyData} {f : Bool} (h : A st = .ok (.ret x f) st1) : sSeq A B st = .ok (.ret x f) st1 := by simp only [sSeq, h, Out.bind]
theorem retS {F : EF} {B C : SF} {st st1 : St} {x : PyData} {f : Bool} (h : F st = .ok (.dat x f) st1) : sSeq (sSeq (sRet F) C) B st = .ok (.ret x f) st1 := by simp only [sSeq, sRet, h, Out.bind, retOf]
theorem fnS_ret {k nl : Nat} {dflt : List Arg} {Fb : SF} {args : List Arg} {ts : List Int} {x : PyData} {f : Bool} {st : St} (hk : args.length = k) (h : Fb ⟨(args ++ dflt).map Arg.slot ++ List.replicate nl .unset, ts⟩ = .ok (.ret x f) st) : fnOfS k nl dflt Fb args ts = .ok x f st.ts := by simp only [fnOfS, hk, if_true, h]

noncomputable def TapeOk (ts : List Int) : Prop := ts.length ≤ 120 ∧ ∀ t ∈ ts, 0 ≤ t ∧ t ≤ 1012
theorem eqvAll_nil (ts : List Int) : PyData.eqvAll (ts.map .int) [] = decide (ts = []) := by simpa using eqvAll_ints ts []

theorem next_ex {ts : List Int} (h : TapeOk ts) : ∃ t ts', fn_law_next [.tape] ts = .ok (.int t) false ts' ∧ 0 ≤ t ∧ t ≤ 1012 ∧ TapeOk ts' := by
  rcases List.eq_nil_or_concat ts with rfl | ⟨l, t, rfl⟩
  · refine ⟨0, [], ?_, by omega, by omega, h⟩
    rfl
  · have hl := h.1
    have ht := h.2 t (by simp)
    have hl : l.length + 1 ≤ 120 := by simpa using hl
    refine ⟨t, l, ?_, ht.1, ht.2, by omega, fun x hx => h.2 x (by simp [hx])⟩
    have h7 := dAll_ints 7 (l ++ [t])
    have hq := eqvAll_nil (l ++ [t])
    simp only [List.map_append, List.map_cons, List.map_nil] at h7 hq
    have hlt : l.length ≤ 99999 := by omega
    simp [fn_law_next, F_law_next, cmp_eq, cmp_ne, ofString_eq, h7, hq, hlt]
theorem fmod_lt {t m : Int} (h : 0 ≤ t) (hm : 0 < m) : 0 ≤ t.fmod m ∧ t.fmod m < m := ⟨Int.fmod_nonneg h (by omega), Int.fmod_lt_of_pos _ hm⟩
theorem label_ex {ts : List Int} (h : TapeOk ts) : ∃ l ts', fn_law_label [.tape] ts = .ok (.int l) false ts' ∧ (l = -1 ∨ l = 0 ∨ l = 1 ∨ l = 2 ∨ l = 3) ∧ TapeOk ts' := by
  refine hide fun b_ hb_ => ?_
  obtain ⟨t, ts', e, h0, h1, ht⟩ := next_ex h
  obtain ⟨m0, m1⟩ := fmod_lt h0 (show (0 : Int) < 5 by omega)
  obtain ⟨m, em⟩ : ∃ m, t.fmod 5 = m := ⟨_, rfl⟩
  refine hb_ ?_
  rw [em] at m0 m1
  have := below_all 5 m0 m1 (fun m => m = 0 ∨ m = 1 ∨ m = 2 ∨ m = 3 ∨ m = 4) (by decide)
  refine ⟨if m = 4 then -1 else m, ts', ?_, ?_, ht⟩
  · rcases this with rfl | rfl | rfl | rfl | rfl <;>
    simp [fn_law_label, F_law_label, e, em]
  · exact below_all 5 m0 m1 (fun m => (if m = 4 then -1 else m) = -1 ∨ (if m = 4 then -1 else m) = 0 ∨ (if m = 4 then -1 else m) = 1 ∨ (if m = 4 then -1 else m) = 2 ∨ (if m = 4 then -1 else m) = 3) (by decide)
theorem lOk {l : Int} (h : l = -1 ∨ l = 0 ∨ l = 1 ∨ l = 2 ∨ l = 3) : LOk l := by rcases h with rfl | rfl | rfl | rfl | rfl <;> exact ⟨by decide, by decide⟩

noncomputable def bodyKey : EF := (eTuple [(eItem (eList [(eDat (.int 4)), (eDat (.int 5))]) (eOp2 (binD .Mod) (eVar 4) (eDat (.int 2)))), (eItem (eList [(eDat (.int 0)), (eDat (.int 5)), (eIf (tst2 (cmpD .Eq) (eOp2 (binD .Mod) (eVar 4) (eDat (.int 2))) (eDat (.int 1))) (eOp1 negD (eDat (.int 7))) (eDat (.int 7))), (eDat (.int 1)), (eOp2 (binD .Pow) (eDat (.int 10)) (eDat (.int 20)))]) (eOp2 (binD .FloorDiv) (eVar 4) (eDat (.int 2))))])
noncomputable def bodyPairs : SF := sSeq (sAssign 4 (eOp2 (binD .Mod) (eCall fn_law_next [(eVar 0)]) (eDat (.int 9)))) (sSeq (sIf (tOf (eVar 1)) (sSeq (sAssign 4 bodyKey) sNil) sNil) (sSeq (sMeth 2 appendD [(eTuple [(eVar 4), (eCall fn_law_label [(eVar 0)])])]) sNil))
theorem pairs_is : F_law_pairs = (sSeq (sAssign 2 (eList [])) (sSeq (sForR (eOp2 (binD .Mod) (eCall fn_law_next [(eVar 0)]) (eDat (.int 4))) (tName 3) bodyPairs) (sSeq (sRet (eFn1 tupD (eVar 2))) sNil))) := rfl
theorem body_con {s3 s4 : Slot} (h4 : s4.canPut = true) (acc : List PyData) (ha : acc.length ≤ 100) {ts : List Int} (h : TapeOk ts) :
    ∃ (c v l : Int) (ts' : List Int) (s4' : Slot), bodyPairs ⟨[.tape, .sh (.bool true), .own (.list acc), s3, s4], ts⟩ = .ok .next ⟨[.tape, .sh (.bool true), .own (.list (acc ++ [ckey ((c, v), l)])), s3, s4'], ts'⟩ ∧ (c = 4 ∨ c = 5) ∧ LOk l ∧ TapeOk ts' ∧ s4'.canPut = true := by
  refine hide fun b_ hb_ => ?_
  obtain ⟨t, ts1, e, h0, h1, ht1⟩ := next_ex h
  obtain ⟨l, ts2, e2, hl, ht2⟩ := label_ex ht1
  obtain ⟨m0, m1⟩ := fmod_lt h0 (show (0 : Int) < 9 by omega)
  obtain ⟨m, em⟩ : ∃ m, t.fmod 9 = m := ⟨_, rfl⟩
  rw [em] at m0 m1
  have ha' : acc.length ≤ 9999 := by omega
  have := lt9 m0 m1
  obtain ⟨c, hc⟩ : ∃ c : Int, c = if m.fmod 2 = 1 then 5 else 4 := ⟨_, rfl⟩
  obtain ⟨v, hv⟩ : ∃ v : Int, v = if m < 2 then 0 else if m < 4 then 5 else if m < 6 then (if m = 5 then -7 else 7) else if m < 8 then 1 else 100000000000000000000 := ⟨_, rfl⟩
  refine hb_ ?_
  refine ⟨c, v, l, ts2, .sh (.tuple [.int c, .int v]), ?_, by rw [hc]; split <;> simp, lOk hl, ht2, rfl⟩
  have hE : sAssign 4 bodyKey ⟨[.tape, .sh (.bool true), .own (.list acc), s3, .sh (.int m)], ts1⟩ = .ok .next ⟨[.tape, .sh (.bool true), .own (.list acc), s3, .sh (.tuple [.int c, .int v])], ts1⟩ := by
    rw [hc, hv]
    rcases this with rfl | rfl | rfl | rfl | rfl | rfl | rfl | rfl | rfl <;> rfl
  refine seqN (show _ = Out.ok SRes.next ⟨[.tape, .sh (.bool true), .own (.list acc), s3, .sh (.int m)], ts1⟩ by simp [e, em, h4]) (ifT rfl (seqN (seq1 hE) (seq1 ?_)))
  simp [e2, ha', ckey]
theorem body_str {s3 s4 : Slot} (h4 : s4.canPut = true) (acc : List PyData) (ha : acc.length ≤ 100) {ts : List Int} (h : TapeOk ts) :
    ∃ (c l : Int) (ts' : List Int) (s4' : Slot), bodyPairs ⟨[.tape, .sh (.bool false), .own (.list acc), s3, s4], ts⟩ = .ok .next ⟨[.tape, .sh (.bool false), .own (.list (acc ++ [skey (c, l)])), s3, s4'], ts'⟩ ∧ 0 ≤ c ∧ LOk l ∧ TapeOk ts' ∧ s4'.canPut = true := by
  refine hide fun b_ hb_ => ?_
  obtain ⟨t, ts1, e, h0, h1, ht1⟩ := next_ex h
  obtain ⟨l, ts2, e2, hl, ht2⟩ := label_ex ht1
  obtain ⟨m0, m1⟩ := fmod_lt h0 (show (0 : Int) < 9 by omega)
  refine hb_ ?_
  have ha' : acc.length ≤ 9999 := by omega
  refine ⟨t.fmod 9, l, ts2, .sh (.int (t.fmod 9)), ?_, m0, lOk hl, ht2, rfl⟩
  simp [bodyPairs, e, e2, h4, ha', skey]
theorem loop_con : ∀ (xs : List PyData) {s3 s4 : Slot}, s3.canPut = true → s4.canPut = true → ∀ (ps : List ((Int × Int) × Int)), ps.length + xs.length ≤ 100 → (∀ p ∈ ps, (p.1.1 = 4 ∨ p.1.1 = 5) ∧ LOk p.2) → ∀ {ts : List Int}, TapeOk ts →
    ∃ (qs : List ((Int × Int) × Int)) (ts' : List Int) (s3' s4' : Slot), sLoop (tName 3) bodyPairs xs ⟨[.tape, .sh (.bool true), .own (.list (ps.map ckey)), s3, s4], ts⟩ = .ok .next ⟨[.tape, .sh (.bool true), .own (.list (qs.map ckey)), s3', s4'], ts'⟩ ∧
      (∀ p ∈ qs, (p.1.1 = 4 ∨ p.1.1 = 5) ∧ LOk p.2) ∧ TapeOk ts' ∧ qs.length = ps.length + xs.length := by
  intro x_
  induction x_ with
  | nil =>
    intro s3 s4 h3 h4 ps hl hp ts ht
    exact ⟨ps, ts, s3, s4, rfl, hp, ht, rfl⟩
  | cons x xs ih =>
    intro s3 s4 h3 h4 ps hl hp ts ht
    refine hide fun b_ hb_ => ?_
    obtain ⟨c, v, l, ts1, s4', e, hc, hl1, ht1, h4'⟩ := body_con (s3 := .sh x) h4 (ps.map ckey) (by simp only [List.length_map, List.length_cons] at hl ⊢; omega) ht
    obtain ⟨qs, ts2, s3'', s4'', e2, hq, ht2, hl2⟩ := ih (s3 := .sh x) rfl h4' (ps ++ [((c, v), l)]) (by simp only [List.length_append, List.length_cons, List.length_nil] at hl ⊢; omega) (by
      intro p hp'
      rcases List.mem_append.mp hp' with h | h
      · exact hp p h
      · simp only [List.mem_singleton] at h; subst h; exact ⟨hc, hl1⟩) ht1
    refine hb_ ?_
    refine ⟨qs, ts2, s3'', s4'', ?_, hq, ht2, by simp only [List.length_append, List.length_cons, List.length_nil] at hl2 ⊢; omega⟩
    rw [List.map_append, List.map_cons, List.map_nil] at e2
    simp only [zA, zB, zC, zD, zE, zF, zG, zH, zI, zJ, zK, zL, zM, zN, zO, zP, zQ, zR, zS, zT, zU, zV, zW, zX, wT, wU, wV, wW, wX, wY, wZ, vA, vB, vC, vD, vE, vF, vG, vH, vI, vJ, vK, vL, vM, vN, vO, vP, vQ, vR, vS, vT, vU, vV, vW, vX, vY, vZ, uA, uB, uC, uD, uE, uF, uG, uH, uI, uJ, uK, uL, uM, uN, uO, uP, uQ, uR, uS, uT, uU, uV, uW, uX, uY, uZ, jA, jB, jC, jD, jE, jF, jG, jH, jI, jJ, jK, jL, jM, jN, jO, jP, jQ, jR, jS, jT, jU, jV, jW, List.getElem?_cons_succ, List.getElem?_cons_zero, h3, if_true, List.set_cons_succ, List.set_cons_zero, e, e2]
theorem loop_str : ∀ (xs : List PyData) {s3 s4 : Slot}, s3.canPut = true → s4.canPut = true → ∀ (ps : List (Int × Int)), ps.length + xs.length ≤ 100 → (∀ p ∈ ps, 0 ≤ p.1 ∧ LOk p.2) → ∀ {ts : List Int}, TapeOk ts →
    ∃ (qs : List (Int × Int)) (ts' : List Int) (s3' s4' : Slot), sLoop (tName 3) bodyPairs xs ⟨[.tape, .sh (.bool false), .own (.list (ps.map skey)), s3, s4], ts⟩ = .ok .next ⟨[.tape, .sh (.bool false), .own (.list (qs.map skey)), s3', s4'], ts'⟩ ∧
      (∀ p ∈ qs, 0 ≤ p.1 ∧ LOk p.2) ∧ TapeOk ts' ∧ qs.length = ps.length + xs.length := by
  intro x_
  induction x_ with
  | nil =>
    intro s3 s4 h3 h4 ps hl hp ts ht
    exact ⟨ps, ts, s3, s4, rfl, hp, ht, rfl⟩
  | cons x xs ih =>
    intro s3 s4 h3 h4 ps hl hp ts ht
    refine hide fun b_ hb_ => ?_
    obtain ⟨c, l, ts1, s4', e, hc, hl1, ht1, h4'⟩ := body_str (s3 := .sh x) h4 (ps.map skey) (by simp only [List.length_map, List.length_cons] at hl ⊢; omega) ht
    obtain ⟨qs, ts2, s3'', s4'', e2, hq, ht2, hl2⟩ := ih (s3 := .sh x) rfl h4' (ps ++ [(c, l)]) (by simp only [List.length_append, List.length_cons, List.length_nil] at hl ⊢; omega) (by
      intro p hp'
      rcases List.mem_append.mp hp' with h | h
      · exact hp p h
      · simp only [List.mem_singleton] at h; subst h; exact ⟨hc, hl1⟩) ht1
    refine hb_ ?_
    refine ⟨qs, ts2, s3'', s4'', ?_, hq, ht2, by simp only [List.length_append, List.length_cons, List.length_nil] at hl2 ⊢; omega⟩
    rw [List.map_append, List.map_cons, List.map_nil] at e2
    simp only [zA, zB, zC, zD, zE, zF, zG, zH, zI, zJ, zK, zL, zM, zN, zO, zP, zQ, zR, zS, zT, zU, zV, zW, zX, wT, wU, wV, wW, wX, wY, wZ, vA, vB, vC, vD, vE, vF, vG, vH, vI, vJ, vK, vL, vM, vN, vO, vP, vQ, vR, vS, vT, vU, vV, vW, vX, vY, vZ, uA, uB, uC, uD, uE, uF, uG, uH, uI, uJ, uK, uL, uM, uN, uO, uP, uQ, uR, uS, uT, uU, uV, uW, uX, uY, uZ, jA, jB, jC, jD, jE, jF, jG, jH, jI, jJ, jK, jL, jM, jN, jO, jP, jQ, jR, jS, jT, jU, jV, jW, List.getElem?_cons_succ, List.getElem?_cons_zero, h3, if_true, List.set_cons_succ, List.set_cons_zero, e, e2]
theorem pairs_con {ts : List Int} (h : TapeOk ts) : ∃ (qs : List ((Int × Int) × Int)) (ts' : List Int), fn_law_pairs [.tape, .sh (.bool true)] ts = .ok (.tuple (qs.map ckey)) false ts' ∧ (∀ p ∈ qs, (p.1.1 = 4 ∨ p.1.1 = 5) ∧ LOk p.2) ∧ TapeOk ts' ∧ qs.length ≤ 4 := by
  refine hide fun b_ hb_ => ?_
  obtain ⟨t, ts1, e, h0, h1, ht1⟩ := next_ex h
  obtain ⟨m0, m1⟩ := fmod_lt h0 (show (0 : Int) < 4 by omega)
  have m2 : t.fmod 4 ≤ 100000 := by omega
  obtain ⟨qs, ts2, s3, s4, e2, hq, ht2, hl⟩ := loop_con ((List.range (t.fmod 4).toNat).map fun (k : Nat) => PyData.int k) (s3 := .unset) (s4 := .unset) rfl rfl [] (by simp; omega) (by simp) ht1
  refine hb_ ?_
  simp only [List.length_nil, List.length_map, List.length_range, Nat.zero_add] at hl
  have hl2 : qs.length ≤ 100000 := by omega
  refine ⟨qs, ts2, ?_, hq, ht2, by omega⟩
  simp only [List.map_nil] at e2
  rw [fn_law_pairs, pairs_is]
  simp [e, m0, m2, e2, hl2]
theorem pairs_str {ts : List Int} (h : TapeOk ts) : ∃ (qs : List (Int × Int)) (ts' : List Int), fn_law_pairs [.tape, .sh (.bool false)] ts = .ok (.tuple (qs.map skey)) false ts' ∧ (∀ p ∈ qs, 0 ≤ p.1 ∧ LOk p.2) ∧ TapeOk ts' ∧ qs.length ≤ 4 := by
  refine hide fun b_ hb_ => ?_
  obtain ⟨t, ts1, e, h0, h1, ht1⟩ := next_ex h
  obtain ⟨m0, m1⟩ := fmod_lt h0 (show (0 : Int) < 4 by omega)
  have m2 : t.fmod 4 ≤ 100000 := by omega
  obtain ⟨qs, ts2, s3, s4, e2, hq, ht2, hl⟩ := loop_str ((List.range (t.fmod 4).toNat).map fun (k : Nat) => PyData.int k) (s3 := .unset) (s4 := .unset) rfl rfl [] (by simp; omega) (by simp) ht1
  refine hb_ ?_
  simp only [List.length_nil, List.length_map, List.length_range, Nat.zero_add] at hl
  have hl2 : qs.length ≤ 100000 := by omega
  refine ⟨qs, ts2, ?_, hq, ht2, by omega⟩
  simp only [List.map_nil] at e2
  rw [fn_law_pairs, pairs_is]
  simp [e, m0, m2, e2, hl2]
end Mine
namespace Mine
open PySem PySem.W PySem.Calls PyProof.Rows

theorem cLoop_cons (store : PyData → St → Option St) (Ft : BF) (Fe : EF) (x : PyData) (xs acc : List PyData) (st st1 st2 st3 st4 : St) (av : AV) (y : PyData) (h1 : store x st = some st1) (h2 : Ft st1 = .ok true st2) (h3 : Fe st2 = .ok av st3) (h4 : av.share st3 = some (y, st4)) (h5 : acc.length ≤ 9999) :
    cLoop store Ft Fe (x :: xs) acc st = cLoop store Ft Fe xs (acc ++ [y]) st4 := by
  simp only [cLoop, h1, h2, Out.bind, h3, h4, h5, if_true]
theorem cLoop_skip (store : PyData → St → Option St) (Ft : BF) (Fe : EF) (x : PyData) (xs acc : List PyData) (st st1 st2 : St) (h1 : store x st = some st1) (h2 : Ft st1 = .ok false st2) :
    cLoop store Ft Fe (x :: xs) acc st = cLoop store Ft Fe xs acc st2 := by
  simp only [cLoop, h1, h2, Out.bind]
theorem labels_loop : ∀ (xs : List PyData) {s0 : Slot}, s0.canPut = true → ∀ (acc : List Int), acc.length + xs.length ≤ 100 → (∀ l ∈ acc, LOk l) → ∀ {ts : List Int}, TapeOk ts →
    ∃ (ls ts' : List Int) (st' : List Slot), cLoop (tName 0) (fun st => .ok true st) (eCall fn_law_label [(eVar 1)]) xs (acc.map .int) ⟨[s0, .tape], ts⟩ = .ok (ls.map .int) ⟨st', ts'⟩ ∧ (∀ l ∈ ls, LOk l) ∧ TapeOk ts' ∧ ls.length = acc.length + xs.length := by
  intro x_
  induction x_ with
  | nil =>
    intro s0 h0 acc hl ha ts ht
    exact ⟨acc, ts, _, rfl, ha, ht, rfl⟩
  | cons x xs ih =>
    intro s0 h0 acc hl ha ts ht
    refine hide fun b_ hb_ => ?_
    obtain ⟨l, ts1, e, hl1, ht1⟩ := label_ex ht
    simp only [List.length_cons] at hl
    obtain ⟨ls, ts2, st2, e2, h1, h2, h3⟩ := ih (s0 := .sh x) rfl (acc ++ [l]) (by simp only [List.length_append, List.length_cons, List.length_nil]; omega) (by
      intro p hp
      rcases List.mem_append.mp hp with h | h
      · exact ha p h
      · simp only [List.mem_singleton] at h; subst h; exact lOk hl1) ht1
    refine hb_ ?_
    refine ⟨ls, ts2, st2, ?_, h1, h2, by simp only [List.length_append, List.length_cons, List.length_nil] at h3 ⊢; omega⟩
    rw [← e2, cLoop_cons (st1 := ⟨[.sh x, .tape], ts⟩) (st2 := ⟨[.sh x, .tape], ts⟩) (st3 := ⟨[.sh x, .tape], ts1⟩) (st4 := ⟨[.sh x, .tape], ts1⟩) (av := .dat (.int l) false) (y := .int l), List.map_append]
    · rfl
    · simp only [zA, zB, zC, zD, zE, zF, zG, zH, zI, zJ, zK, zL, zM, zN, zO, zP, zQ, zR, zS, zT, zU, zV, zW, zX, wT, wU, wV, wW, wX, wY, wZ, vA, vB, vC, vD, vE, vF, vG, vH, vI, vJ, vK, vL, vM, vN, vO, vP, vQ, vR, vS, vT, vU, vV, vW, vX, vY, vZ, uA, uB, uC, uD, uE, uF, uG, uH, uI, uJ, uK, uL, uM, uN, uO, uP, uQ, uR, uS, uT, uU, uV, uW, uX, uY, uZ, jA, jB, jC, jD, jE, jF, jG, jH, jI, jJ, jK, jL, jM, jN, jO, jP, jQ, jR, jS, jT, jU, jV, jW, List.getElem?_cons_succ, List.getElem?_cons_zero, h0, if_true, List.set_cons_succ, List.set_cons_zero]
    · rfl
    · simp [e]
    · rfl
    · simp only [List.length_map]; omega
theorem labels_ex (k : Slot) {ts : List Int} (h : TapeOk ts) : ∃ (a b c d : Int) (ts' : List Int), eCompR 1 (eDat (.int 4)) [0] (tName 0) (fun st => .ok true st) (eCall fn_law_label [(eVar 1)]) ⟨[.tape, k], ts⟩ = .ok (.dat (.list [.int a, .int b, .int c, .int d]) true) ⟨[.tape, k], ts'⟩ ∧ LOk a ∧ LOk b ∧ LOk c ∧ LOk d ∧ TapeOk ts' := by
  refine hide fun b_ hb_ => ?_
  obtain ⟨ls, ts', st', e, h1, h2, h3⟩ := labels_loop ((List.range (4 : Int).toNat).map fun (k : Nat) => PyData.int k) (s0 := .unset) rfl [] (by simp) (by simp) h
  refine hb_ ?_
  match ls with
  | [] | [_] | [_, _] | [_, _, _] | _ :: _ :: _ :: _ :: _ :: _ => simp at h3
  | [a, b, c, d] =>
    refine ⟨a, b, c, d, ts', ?_, h1 a (by simp), h1 b (by simp), h1 c (by simp), h1 d (by simp), h2⟩
    simp only [List.map_nil] at e
    simp only [eCompR, eDat, Out.bind, AV.data, compD, capSlots, List.getElem?_cons_zero, Option.map_some, List.replicate, List.cons_append, List.nil_append]
    rw [if_pos (by decide), e]
    rfl
noncomputable def real1 : SF := (sSeq (sIf (tst2 (cmpD .Eq) (eVar 1) (eDat (.int 1))) (sSeq (sRet (eTuple [(eDat (.str "try")), (eCall fn_law_label [(eVar 0)]), (eOp2 (binD .Mod) (eCall fn_law_next [(eVar 0)]) (eDat (.int 4)))])) sNil) sNil) (sSeq (sIf (tst2 (cmpD .Eq) (eVar 1) (eDat (.int 2))) (sSeq (sRet (eTuple [(eDat (.str "retry")), (eCall fn_law_label [(eVar 0)])])) sNil) sNil) (sSeq (sIf (tst2 (cmpD .Eq) (eVar 1) (eDat (.int 3))) (sSeq (sRet (eTuple [(eDat (.str "trust")), (eCall fn_law_label [(eVar 0)])])) sNil) sNil) (sSeq (sIf (tst2 (cmpD .Eq) (eVar 1) (eDat (.int 4))) (sSeq (sRet (eOp2 (binD .Add) (eTuple [(eDat (.str "switch_on_term"))]) (eFn1 tupD (eCompR 1 (eDat (.int 4)) [0] (tName 0) (fun st => .ok true st) (eCall fn_law_label [(eVar 1)]))))) sNil) sNil) (sSeq (sIf (tst2 (cmpD .Eq) (eVar 1) (eDat (.int 5))) (sSeq (sRet (eTuple [(eDat (.str "switch_on_constant")), (eCall fn_law_pairs [(eVar 0), (eDat (.bool true))]), (eCall fn_law_label [(eVar 0)])])) sNil) sNil) (sSeq (sIf (tst2 (cmpD .Eq) (eVar 1) (eDat (.int 6))) (sSeq (sRet (eTuple [(eDat (.str "switch_on_structure")), (eCall fn_law_pairs [(eVar 0), (eDat (.bool false))]), (eCall fn_law_label [(eVar 0)])])) sNil) sNil) (sSeq (sIf (tst2 (cmpD .Eq) (eVar 1) (eDat (.int 7))) (sSeq (sRet (eTuple [(eDat (.str "call")), (eCall fn_law_next [(eVar 0)]), (eOp2 (binD .Mod) (eCall fn_law_next [(eVar 0)]) (eDat (.int 3)))])) sNil) sNil) (sSeq (sIf (tst2 (cmpD .Eq) (eVar 1) (eDat (.int 8))) (sSeq (sRet (eTuple [(eDat (.str "get_constant")), (eTuple [(eDat (.int 5)), (eOp2 (binD .Sub) (eDat (.int 3)) (eCall fn_law_next [(eVar 0)]))]), (eTuple [(eDat (.str "x")), (eOp2 (binD .Add) (eDat (.int 1)) (eOp2 (binD .Mod) (eCall fn_law_next [(eVar 0)]) (eDat (.int 3))))])])) sNil) sNil) (sSeq (sRet (eTuple [(eDat (.str "proceed"))])) sNil)))))))))
theorem real_ex {ts : List Int} (h : TapeOk ts) : ∃ (r : Row) (ts' : List Int), fn_law_real [.tape] ts = .ok r.enc false ts' ∧ r.Ok ∧ r.isLab = false ∧ r.isBad = false ∧ TapeOk ts' := by
  refine hide fun b_ hb_ => ?_
  obtain ⟨t, ts1, e, h0, h1, ht1⟩ := next_ex h
  obtain ⟨m0, m1⟩ := fmod_lt h0 (show (0 : Int) < 9 by omega)
  obtain ⟨m, em⟩ : ∃ m, t.fmod 9 = m := ⟨_, rfl⟩
  rw [em] at m0 m1
  have := lt9 m0 m1
  obtain ⟨l, ts2, e2, hl, ht2⟩ := label_ex ht1
  obtain ⟨n, ts3, e3, hn, hn1, ht3⟩ := next_ex ht2
  refine hb_ ?_
  have e0 : sAssign 1 (eOp2 (binD .Mod) (eCall fn_law_next [(eVar 0)]) (eDat (.int 9))) ⟨[.tape, .unset], ts⟩ = .ok .next ⟨[.tape, .sh (.int m)], ts1⟩ := by simp [e, em]
  have go : ∀ {x : PyData} {ts' : List Int}, real1 ⟨[.tape, .sh (.int m)], ts1⟩ = .ok (.ret x false) ⟨[.tape, .sh (.int m)], ts'⟩ → fn_law_real [.tape] ts = .ok x false ts' := fun h => fnS_ret (st := ⟨[.tape, .sh (.int m)], _⟩) rfl (seqN e0 h)
  clear e0
  rcases this with rfl | rfl | rfl | rfl | rfl | rfl | rfl | rfl | rfl
  · exact ⟨.proc, ts1, go (ifF rfl (ifF rfl (ifF rfl (ifF rfl (ifF rfl (ifF rfl (ifF rfl (ifF rfl rfl)))))))), trivial, rfl, rfl, ht1⟩
  · exact ⟨.try_ l (n.fmod 4), ts3, go (ifT rfl (retS (by simp [e2, e3, Row.enc]))), ⟨lOk hl, (fmod_lt hn (by decide)).1⟩, rfl, rfl, ht3⟩
  · exact ⟨.retry l, ts2, go (ifF rfl (ifT rfl (retS (by simp [e2, Row.enc])))), lOk hl, rfl, rfl, ht2⟩
  · exact ⟨.trust l, ts2, go (ifF rfl (ifF rfl (ifT rfl (retS (by simp [e2, Row.enc]))))), lOk hl, rfl, rfl, ht2⟩
  · refine hide fun b_ hb_ => ?_
    obtain ⟨a, b, c, d, ts4, e4, ha, hb, hc, hd, ht4⟩ := labels_ex (.sh (.int 4)) ht1
    refine hb_ ?_
    exact ⟨.term a b c d, ts4, go (ifF rfl (ifF rfl (ifF rfl (ifT rfl (retS (by simp [e4, Row.enc])))))), ⟨ha, hb, hc, hd⟩, rfl, rfl, ht4⟩
  · refine hide fun b_ hb_ => ?_
    obtain ⟨qs, ts4, e4, hq, ht4, hql⟩ := pairs_con ht1
    obtain ⟨l, ts2, e2, hl, ht2⟩ := label_ex ht4
    refine hb_ ?_
    exact ⟨.con qs l, ts2, go (ifF rfl (ifF rfl (ifF rfl (ifF rfl (ifT rfl (retS (by simp [e4, e2, Row.enc]))))))), ⟨lOk hl, hql, hq⟩, rfl, rfl, ht2⟩
  · refine hide fun b_ hb_ => ?_
    obtain ⟨qs, ts4, e4, hq, ht4, hql⟩ := pairs_str ht1
    obtain ⟨l, ts2, e2, hl, ht2⟩ := label_ex ht4
    refine hb_ ?_
    exact ⟨.str qs l, ts2, go (ifF rfl (ifF rfl (ifF rfl (ifF rfl (ifF rfl (ifT rfl (retS (by simp [e4, e2, Row.enc])))))))), ⟨lOk hl, hql, hq⟩, rfl, rfl, ht2⟩
  · refine hide fun b_ hb_ => ?_
    obtain ⟨u, ts4, e4, hu, _, ht4⟩ := next_ex ht1
    obtain ⟨v, ts5, e5, hv, _, ht5⟩ := next_ex ht4
    refine hb_ ?_
    exact ⟨.call u (v.fmod 3), ts5, go (ifF rfl (ifF rfl (ifF rfl (ifF rfl (ifF rfl (ifF rfl (ifT rfl (retS (by simp [e4, e5, Row.enc]))))))))), ⟨hu, (fmod_lt hv (by decide)).1⟩, rfl, rfl, ht5⟩
  · refine hide fun b_ hb_ => ?_
    obtain ⟨u, ts4, e4, hu, _, ht4⟩ := next_ex ht1
    obtain ⟨v, ts5, e5, hv, _, ht5⟩ := next_ex ht4
    refine hb_ ?_
    exact ⟨.getc (3 - u) (1 + v.fmod 3), ts5, go (ifF rfl (ifF rfl (ifF rfl (ifF rfl (ifF rfl (ifF rfl (ifF rfl (ifT rfl (retS (by simp [e4, e5, Row.enc])))))))))), (show 1 ≤ 1 + v.fmod 3 by have := (fmod_lt hv (show (0 : Int) < 3 by decide)).1; omega), rfl, rfl, ht5⟩

noncomputable def asked : Row → List Int
  | .lab k => []
  | .try_ l n => [l]
  | .retry l => [l]
  | .trust l => [l]
  | .term a b c d => [a, b, c, d]
  | .con ps l => ps.map (·.2) ++ [l]
  | .str ps l => ps.map (·.2) ++ [l]
  | .call a b => []
  | .getc v r => []
  | .proc => []
  | .bad x b => []
theorem pairs_loop {α : Type} (f : α → PyData) (k : α → PyData) (l : α → Int) (hf : ∀ a, f a = .tuple [k a, .int (l a)]) : ∀ (ps : List α) {s0 s1 : Slot} {ts : List Int} (acc : List PyData), s0.canPut = true → s1.canPut = true → acc.length + ps.length ≤ 100 →
    ∃ st', cLoop (tPair 0 1) (fun st => .ok true st) (eVar 1) (ps.map f) acc ⟨[s0, s1], ts⟩ = .ok (acc ++ ps.map fun p => .int (l p)) ⟨st', ts⟩ := by
  intro x_
  induction x_ with
  | nil =>
    intro s0 s1 ts acc h0 h1 hl
    exact ⟨_, by simp [cLoop]; rfl⟩
  | cons p ps ih =>
    intro s0 s1 ts acc h0 h1 hl
    simp only [List.length_cons] at hl
    obtain ⟨st', e⟩ := ih (s0 := .sh (k p)) (s1 := .sh (.int (l p))) (ts := ts) (acc ++ [.int (l p)]) rfl rfl (by simp only [List.length_append, List.length_cons, List.length_nil]; omega)
    refine ⟨st', ?_⟩
    rw [List.map_cons, cLoop_cons (st1 := ⟨[.sh (k p), .sh (.int (l p))], ts⟩) (st2 := ⟨[.sh (k p), .sh (.int (l p))], ts⟩) (st3 := ⟨[.sh (k p), .sh (.int (l p))], ts⟩) (st4 := ⟨[.sh (k p), .sh (.int (l p))], ts⟩) (av := .var 1) (y := .int (l p)), e]
    · simp
    · simp only [hf, zA, zB, zC, zD, zE, zF, zG, zH, zI, zJ, zK, zL, zM, zN, zO, zP, zQ, zR, zS, zT, zU, zV, zW, zX, wT, wU, wV, wW, wX, wY, wZ, vA, vB, vC, vD, vE, vF, vG, vH, vI, vJ, vK, vL, vM, vN, vO, vP, vQ, vR, vS, vT, vU, vV, vW, vX, vY, vZ, uA, uB, uC, uD, uE, uF, uG, uH, uI, uJ, uK, uL, uM, uN, uO, uP, uQ, uR, uS, uT, uU, uV, uW, uX, uY, uZ, jA, jB, jC, jD, jE, jF, jG, jH, jI, jJ, jK, jL, jM, jN, jO, jP, jQ, jR, jS, jT, jU, jV, jW, List.getElem?_cons_succ, List.getElem?_cons_zero, h0, h1, if_true, List.set_cons_succ, List.set_cons_zero, Option.bind_some]
    · rfl
    · rfl
    · rfl
    · omega
theorem asked_comp {α : Type} (f : α → PyData) (k : α → PyData) (l : α → Int) (hf : ∀ a, f a = .tuple [k a, .int (l a)]) (ps : List α) (hl : ps.length ≤ 100) (nm : Str) (z : PyData) (ts : List Int) :
    eComp 2 (eItem (eVar 0) (eDat (.int 1))) [] (tPair 0 1) (fun st => .ok true st) (eVar 1) ⟨[.sh (.tuple [.str nm, .tuple (ps.map f), z])], ts⟩ = .ok (.dat (.list (ps.map fun p => .int (l p))) true) ⟨[.sh (.tuple [.str nm, .tuple (ps.map f), z])], ts⟩ := by
  obtain ⟨st', e⟩ := pairs_loop f k l hf ps (s0 := .unset) (s1 := .unset) (ts := ts) [] rfl rfl (by simpa using hl)
  have : eItem (eVar 0) (eDat (.int 1)) ⟨[.sh (.tuple [.str nm, .tuple (ps.map f), z])], ts⟩ = .ok (.dat (.tuple (ps.map f)) false) ⟨[.sh (.tuple [.str nm, .tuple (ps.map f), z])], ts⟩ := by simp
  simp only [eComp, this, Out.bind, AV.share, itemsD, compD, capSlots, List.replicate, List.append_nil, e, List.nil_append]
theorem asked_ev {r : Row} (h : r.Ok) (hb : r.isBad = false) (ts : List Int) : fn_law_asked [.sh r.enc] ts = .ok (.list ((asked r).map .int)) true ts := by
  cases r with
  | bad x b => cases hb
  | con ps l =>
    have hl : ps.length ≤ 100 := by have := h.2.1; omega
    have hl2 : ps.length + 1 ≤ 10000 := by omega
    have := asked_comp ckey (fun p => .tuple [.int p.1.1, .int p.1.2]) (·.2) (fun _ => rfl) ps hl "switch_on_constant" (.int l) ts
    simp [Row.enc, asked, fn_law_asked, F_law_asked, cmp_eq, cmp_inT, ofString_eq, this, hl2, Function.comp_def]
  | str ps l =>
    have hl : ps.length ≤ 100 := by have := h.2.1; omega
    have hl2 : ps.length + 1 ≤ 10000 := by omega
    have := asked_comp skey (fun p => .int p.1) (·.2) (fun _ => rfl) ps hl "switch_on_structure" (.int l) ts
    simp [Row.enc, asked, fn_law_asked, F_law_asked, cmp_eq, cmp_inT, ofString_eq, this, hl2, Function.comp_def]
  | _ => kernel_rfl
end Mine
namespace Mine
open PySem PySem.W PySem.Calls PyProof.Rows

noncomputable def inBody : SF := (sSeq (sIf (tAnd [(tst2 (cmpD .GtE) (eVar 4) (eDat (.int 0))), (tst2 (cmpD .NotIn) (eVar 4) (eVar 2))]) (sSeq (sMeth 2 appendD [(eVar 4)]) sNil) sNil) sNil)
noncomputable def outBody : SF := (sSeq (sFor (eCall fn_law_asked [(eVar 3)]) (tName 4) inBody) sNil)
noncomputable def insBody : SF := (sSeq (sMeth 1 insertD [(eOp2 (binD .Mod) (eCall fn_law_next [(eVar 0)]) (eVar 5)), (eTuple [(eDat (.str "label")), (eVar 4)])]) sNil)
noncomputable def tailB : SF := (sSeq (sAssign 6 (eOp2 (binD .Mod) (eCall fn_law_next [(eVar 0)]) (eDat (.int 8)))) (sSeq (sAssign 7 (eOp2 (binD .Mod) (eCall fn_law_next [(eVar 0)]) (eFn2 maxD (eDat (.int 1)) (eFn1 (fun x => (lenD x).map fun i => (.int i, false)) (eVar 1))))) (sSeq (sIf (tAnd [(tst2 (cmpD .Eq) (eVar 6) (eDat (.int 1))), (tst2 (cmpD .NotEq) (eVar 2) (eList []))]) (sSeq (sMeth 1 removeD [(eTuple [(eDat (.str "label")), (eItem (eVar 2) (eOp2 (binD .Mod) (eVar 7) (eFn1 (fun x => (lenD x).map fun i => (.int i, false)) (eVar 2))))])]) sNil) (sSeq (sIf (tAnd [(tst2 (cmpD .Eq) (eVar 6) (eDat (.int 2))), (tst2 (cmpD .NotEq) (eVar 2) (eList []))]) (sSeq (sMeth 1 insertD [(eVar 7), (eTuple [(eDat (.str "label")), (eItem (eVar 2) (eDat (.int 0)))])]) sNil) (sSeq (sIf (tAnd [(tst2 (cmpD .Eq) (eVar 6) (eDat (.int 3))), (tst2 (cmpD .NotEq) (eVar 2) (eList []))]) (sSeq (sMeth 1 removeD [(eTuple [(eDat (.str "label")), (eItem (eVar 2) (eDat (.int 0)))])]) (sSeq (sMeth 1 appendD [(eTuple [(eDat (.str "label")), (eItem (eVar 2) (eDat (.int 0)))])]) sNil)) (sSeq (sIf (tst2 (cmpD .Eq) (eVar 6) (eDat (.int 4))) (sSeq (sAssign 8 (eCall fn_law_bad [])) (sSeq (sMeth 1 insertD [(eVar 7), (eItem (eVar 8) (eOp2 (binD .Mod) (eCall fn_law_next [(eVar 0)]) (eFn1 (fun x => (lenD x).map fun i => (.int i, false)) (eVar 8))))]) sNil)) (sSeq (sIf (tst2 (cmpD .Eq) (eVar 6) (eDat (.int 5))) (sSeq (sMeth 1 insertD [(eVar 7), (eTuple [(eDat (.str "label")), (eDat (.int 9))])]) sNil) sNil) sNil)) sNil)) sNil)) sNil)) (sSeq (sRet (eVar 1)) sNil))))
theorem block_is : F_law_block = (sSeq (sAssignCR 1 1 (eOp2 (binD .Mod) (eCall fn_law_next [(eVar 0)]) (eDat (.int 9))) [0] (tName 0) (fun st => .ok true st) (eCall fn_law_real [(eVar 1)])) (sSeq (sAssign 2 (eList [])) (sSeq (sFor (eVar 1) (tName 3) outBody) (sSeq (sAssign 5 (eFn1 (fun x => (lenD x).map fun i => (.int i, false)) (eVar 1))) (sSeq (sFor (eVar 2) (tName 4) insBody) tailB))))) := rfl

theorem reals_loop : ∀ (xs : List PyData) {s0 : Slot}, s0.canPut = true → ∀ (acc : List Row), acc.length + xs.length ≤ 100 → (∀ r ∈ acc, r.Ok ∧ r.isLab = false ∧ r.isBad = false) → ∀ {ts : List Int}, TapeOk ts →
    ∃ (rs : List Row) (ts' : List Int) (st' : List Slot), cLoop (tName 0) (fun st => .ok true st) (eCall fn_law_real [(eVar 1)]) xs (acc.map Row.enc) ⟨[s0, .tape], ts⟩ = .ok (rs.map Row.enc) ⟨st', ts'⟩ ∧ (∀ r ∈ rs, r.Ok ∧ r.isLab = false ∧ r.isBad = false) ∧ TapeOk ts' ∧ rs.length = acc.length + xs.length := by
  intro x_
  induction x_ with
  | nil =>
    intro s0 h0 acc hl ha ts ht
    exact ⟨acc, ts, _, rfl, ha, ht, rfl⟩
  | cons x xs ih =>
    intro s0 h0 acc hl ha ts ht
    refine hide fun b_ hb_ => ?_
    obtain ⟨r, ts1, e, hr1, hr2, hr3, ht1⟩ := real_ex ht
    simp only [List.length_cons] at hl
    obtain ⟨ls, ts2, st2, e2, h1, h2, h3⟩ := ih (s0 := .sh x) rfl (acc ++ [r]) (by simp only [List.length_append, List.length_cons, List.length_nil]; omega) (by
      intro p hp
      rcases List.mem_append.mp hp with h | h
      · exact ha p h
      · simp only [List.mem_singleton] at h; subst h; exact ⟨hr1, hr2, hr3⟩) ht1
    refine hb_ ?_
    refine ⟨ls, ts2, st2, ?_, h1, h2, by simp only [List.length_append, List.length_cons, List.length_nil] at h3 ⊢; omega⟩
    rw [← e2, cLoop_cons (st1 := ⟨[.sh x, .tape], ts⟩) (st2 := ⟨[.sh x, .tape], ts⟩) (st3 := ⟨[.sh x, .tape], ts1⟩) (st4 := ⟨[.sh x, .tape], ts1⟩) (av := .dat r.enc false) (y := r.enc), List.map_append]
    · rfl
    · simp only [zA, zB, zC, zD, zE, zF, zG, zH, zI, zJ, zK, zL, zM, zN, zO, zP, zQ, zR, zS, zT, zU, zV, zW, zX, wT, wU, wV, wW, wX, wY, wZ, vA, vB, vC, vD, vE, vF, vG, vH, vI, vJ, vK, vL, vM, vN, vO, vP, vQ, vR, vS, vT, vU, vV, vW, vX, vY, vZ, uA, uB, uC, uD, uE, uF, uG, uH, uI, uJ, uK, uL, uM, uN, uO, uP, uQ, uR, uS, uT, uU, uV, uW, uX, uY, uZ, jA, jB, jC, jD, jE, jF, jG, jH, jI, jJ, jK, jL, jM, jN, jO, jP, jQ, jR, jS, jT, jU, jV, jW, List.getElem?_cons_succ, List.getElem?_cons_zero, h0, if_true, List.set_cons_succ, List.set_cons_zero]
    · rfl
    · simp [e]
    · rfl
    · simp only [List.length_map]; omega
theorem reals_ex {q : List Slot} {ts : List Int} (h : TapeOk ts) : ∃ (rs : List Row) (ts' : List Int), sAssignCR 1 1 (eOp2 (binD .Mod) (eCall fn_law_next [(eVar 0)]) (eDat (.int 9))) [0] (tName 0) (fun st => .ok true st) (eCall fn_law_real [(eVar 1)]) ⟨.tape :: .unset :: q, ts⟩ = .ok .next ⟨.tape :: .own (.list (rs.map Row.enc)) :: q, ts'⟩ ∧
    (∀ r ∈ rs, r.Ok ∧ r.isLab = false ∧ r.isBad = false) ∧ TapeOk ts' ∧ rs.length ≤ 8 := by
  refine hide fun b_ hb_ => ?_
  obtain ⟨t, ts1, e, h0, h1, ht1⟩ := next_ex h
  obtain ⟨m0, m1⟩ := fmod_lt h0 (show (0 : Int) < 9 by omega)
  obtain ⟨m, em⟩ : ∃ m, t.fmod 9 = m := ⟨_, rfl⟩
  rw [em] at m0 m1
  obtain ⟨rs, ts', st', e2, h1, h2, h3⟩ := reals_loop ((List.range m.toNat).map fun (k : Nat) => PyData.int k) (s0 := .unset) rfl [] (by simp; omega) (by simp) ht1
  refine hb_ ?_
  simp only [List.length_nil, List.length_map, List.length_range, Nat.zero_add] at h3
  refine ⟨rs, ts', ?_, h1, h2, by omega⟩
  have e1 : eOp2 (binD .Mod) (eCall fn_law_next [(eVar 0)]) (eDat (.int 9)) ⟨.tape :: .unset :: q, ts⟩ = .ok (.dat (.int m) false) ⟨.tape :: .unset :: q, ts1⟩ := by
    simp [e, em]
  simp only [List.map_nil] at e2
  simp only [sAssignCR, eCompR, e1, Out.bind, AV.data, compD, capSlots, List.getElem?_cons_zero, Option.map_some, List.replicate, List.cons_append, List.nil_append]
  rw [if_pos (by omega), e2]
  rfl

theorem any_ints (ls : List Int) (l : Int) : ((ls.map PyData.int).any fun y => PyData.eqv y (.int l)) = decide (l ∈ ls) := by
  induction ls with
  | nil => rfl
  | cons a r ih =>
    rw [List.map_cons, List.any_cons, ih, eqv_int]
    simp only [List.mem_cons, Bool.decide_or, eq_comm]
theorem any_ints' (ls : List Int) (l : Int) : (ls.any ((fun y => PyData.eqv y (.int l)) ∘ PyData.int)) = decide (l ∈ ls) := by rw [← any_ints, List.any_map]
theorem in_ev {R X : Slot} {q : List Slot} (ls : List Int) (l : Int) (hl : ls.length ≤ 1000) (ts : List Int) :
    inBody ⟨.tape :: R :: .own (.list (ls.map .int)) :: X :: .sh (.int l) :: q, ts⟩ = .ok .next ⟨.tape :: R :: .own (.list ((if 0 ≤ l ∧ l ∉ ls then ls ++ [l] else ls).map .int)) :: X :: .sh (.int l) :: q, ts⟩ := by
  have h9 : ls.length ≤ 9999 := by omega
  by_cases h0 : 0 ≤ l
  · by_cases h1 : l ∈ ls
    · simp [inBody, h0, h1, cmp_ninL, any_ints']
    · simp [inBody, h0, h1, cmp_ninL, any_ints', h9]
  · simp [inBody, h0]
theorem in_loop : ∀ (as ls : List Int), ls.length + as.length ≤ 1000 → ∀ {R X s4 : Slot} {q : List Slot} {ts : List Int}, s4.canPut = true →
    ∃ (ls' : List Int) (s4' : Slot), sLoop (tName 4) inBody (as.map .int) ⟨.tape :: R :: .own (.list (ls.map .int)) :: X :: s4 :: q, ts⟩ = .ok .next ⟨.tape :: R :: .own (.list (ls'.map .int)) :: X :: s4' :: q, ts⟩ ∧
      (∀ l ∈ ls', l ∈ ls ∨ (l ∈ as ∧ 0 ≤ l)) ∧ ls'.length ≤ ls.length + as.length ∧ s4'.canPut = true := by
  intro x_
  induction x_ with
  | nil =>
    intro ls hl R X s4 q ts h4
    exact ⟨ls, s4, rfl, fun l h => .inl h, Nat.le_refl _, h4⟩
  | cons a as ih =>
    intro ls hl R X s4 q ts h4
    simp only [List.length_cons] at hl
    have hlen : (if 0 ≤ a ∧ a ∉ ls then ls ++ [a] else ls).length ≤ ls.length + 1 := by split <;> simp
    obtain ⟨ls', s4', e, h1, h2, h3⟩ := ih (if 0 ≤ a ∧ a ∉ ls then ls ++ [a] else ls) (by omega) (R := R) (X := X) (s4 := .sh (.int a)) (q := q) (ts := ts) rfl
    refine ⟨ls', s4', ?_, ?_, by simp only [List.length_cons]; omega, h3⟩
    · have := in_ev (R := R) (X := X) (q := q) ls a (by omega) ts
      simp only [List.map_cons, zA, zB, zC, zD, zE, zF, zG, zH, zI, zJ, zK, zL, zM, zN, zO, zP, zQ, zR, zS, zT, zU, zV, zW, zX, wT, wU, wV, wW, wX, wY, wZ, vA, vB, vC, vD, vE, vF, vG, vH, vI, vJ, vK, vL, vM, vN, vO, vP, vQ, vR, vS, vT, vU, vV, vW, vX, vY, vZ, uA, uB, uC, uD, uE, uF, uG, uH, uI, uJ, uK, uL, uM, uN, uO, uP, uQ, uR, uS, uT, uU, uV, uW, uX, uY, uZ, jA, jB, jC, jD, jE, jF, jG, jH, jI, jJ, jK, jL, jM, jN, jO, jP, jQ, jR, jS, jT, jU, jV, jW, List.getElem?_cons_succ, List.getElem?_cons_zero, h4, if_true, List.set_cons_succ, List.set_cons_zero, this, e]
    · intro l h
      rcases h1 l h with h | h
      · split at h
        · rename_i hc
          rcases List.mem_append.mp h with h | h
          · exact .inl h
          · simp only [List.mem_singleton] at h; subst h; exact .inr ⟨List.mem_cons_self, hc.1⟩
        · exact .inl h
      · exact .inr ⟨List.mem_cons_of_mem _ h.1, h.2⟩
theorem asked_lok {r : Row} (h : r.Ok) : ∀ l ∈ asked r, LOk l := by
  cases r with
  | try_ l n => intro x hx; simp only [asked, List.mem_singleton] at hx; subst hx; exact h.1
  | retry l => intro x hx; simp only [asked, List.mem_singleton] at hx; subst hx; exact h
  | trust l => intro x hx; simp only [asked, List.mem_singleton] at hx; subst hx; exact h
  | term a b c d =>
    intro x hx
    simp only [asked, List.mem_cons, List.not_mem_nil, or_false] at hx
    rcases hx with rfl | rfl | rfl | rfl
    · exact h.1
    · exact h.2.1
    · exact h.2.2.1
    · exact h.2.2.2
  | con ps l =>
    intro x hx
    simp only [asked, List.mem_append, List.mem_map, List.mem_singleton] at hx
    rcases hx with ⟨p, hp, rfl⟩ | rfl
    · exact (h.2.2 p hp).2
    · exact h.1
  | str ps l =>
    intro x hx
    simp only [asked, List.mem_append, List.mem_map, List.mem_singleton] at hx
    rcases hx with ⟨p, hp, rfl⟩ | rfl
    · exact (h.2.2 p hp).2
    · exact h.1
  | _ => intro x hx; cases hx
theorem asked_len {r : Row} (h : r.Ok) : (asked r).length ≤ 5 := by
  cases r with
  | con ps l => have := h.2.1; simp only [asked, List.length_append, List.length_map, List.length_cons, List.length_nil]; omega
  | str ps l => have := h.2.1; simp only [asked, List.length_append, List.length_map, List.length_cons, List.length_nil]; omega
  | _ => simp [asked]
theorem out_loop : ∀ (rs : List Row), (∀ r ∈ rs, r.Ok ∧ r.isLab = false ∧ r.isBad = false) → ∀ (ls : List Int), (∀ l ∈ ls, 0 ≤ l ∧ l ≤ 9) → ls.length + 5 * rs.length ≤ 1000 → ∀ {R s3 s4 : Slot} {q : List Slot} {ts : List Int}, s3.canPut = true → s4.canPut = true →
    ∃ (ls' : List Int) (s3' s4' : Slot), sLoop (tName 3) outBody (rs.map Row.enc) ⟨.tape :: R :: .own (.list (ls.map .int)) :: s3 :: s4 :: q, ts⟩ = .ok .next ⟨.tape :: R :: .own (.list (ls'.map .int)) :: s3' :: s4' :: q, ts⟩ ∧
      (∀ l ∈ ls', 0 ≤ l ∧ l ≤ 9) ∧ ls'.length ≤ ls.length + 5 * rs.length ∧ s3'.canPut = true ∧ s4'.canPut = true := by
  intro x_
  induction x_ with
  | nil =>
    intro hr ls hls hl R s3 s4 q ts h3 h4
    exact ⟨ls, s3, s4, rfl, hls, by simp, h3, h4⟩
  | cons r rs ih =>
    intro hr ls hls hl R s3 s4 q ts h3 h4
    simp only [List.length_cons] at hl
    refine hide fun b_ hb_ => ?_
    obtain ⟨ho, _, hb⟩ := hr r List.mem_cons_self
    have ha := asked_len ho
    obtain ⟨ls1, s4', e, h1, h2, h5⟩ := in_loop (asked r) ls (by omega) (R := R) (X := .sh r.enc) (s4 := s4) (q := q) (ts := ts) h4
    obtain ⟨ls2, s3', s4'', e2, h6, h7, h8, h9⟩ := ih (fun x hx => hr x (List.mem_cons_of_mem _ hx)) ls1 (by
      intro l hl
      rcases h1 l hl with h | h
      · exact hls l h
      · exact ⟨h.2, (asked_lok ho l h.1).2⟩) (by omega) (R := R) (s3 := .sh r.enc) (s4 := s4') (q := q) (ts := ts) rfl h5
    refine hb_ ?_
    refine ⟨ls2, s3', s4'', ?_, h6, by simp only [List.length_cons]; omega, h8, h9⟩
    have e0 : outBody ⟨.tape :: R :: .own (.list (ls.map .int)) :: .sh r.enc :: s4 :: q, ts⟩ = .ok .next ⟨.tape :: R :: .own (.list (ls1.map .int)) :: .sh r.enc :: s4' :: q, ts⟩ := by
      simp [outBody, asked_ev ho hb, e]
    simp only [List.map_cons, zA, zB, zC, zD, zE, zF, zG, zH, zI, zJ, zK, zL, zM, zN, zO, zP, zQ, zR, zS, zT, zU, zV, zW, zX, wT, wU, wV, wW, wX, wY, wZ, vA, vB, vC, vD, vE, vF, vG, vH, vI, vJ, vK, vL, vM, vN, vO, vP, vQ, vR, vS, vT, vU, vV, vW, vX, vY, vZ, uA, uB, uC, uD, uE, uF, uG, uH, uI, uJ, uK, uL, uM, uN, uO, uP, uQ, uR, uS, uT, uU, uV, uW, uX, uY, uZ, jA, jB, jC, jD, jE, jF, jG, jH, jI, jJ, jK, jL, jM, jN, jO, jP, jQ, jR, jS, jT, jU, jV, jW, List.getElem?_cons_succ, List.getElem?_cons_zero, h3, if_true, List.set_cons_succ, List.set_cons_zero, e0, e2]
theorem rows_insert_ok {rs : List Row} {r : Row} (h : ∀ x ∈ rs, x.Ok) (hr : r.Ok) (i : Nat) : ∀ x ∈ rs.take i ++ r :: rs.drop i, x.Ok := by
  intro x hx
  rcases List.mem_append.mp hx with h1 | h1
  · exact h x (List.mem_of_mem_take h1)
  · rcases List.mem_cons.mp h1 with rfl | h1
    · exact hr
    · exact h x (List.mem_of_mem_drop h1)
theorem insert_map (rs : List Row) (r : Row) (i : Nat) : (rs.map Row.enc).take i ++ r.enc :: (rs.map Row.enc).drop i = (rs.take i ++ r :: rs.drop i).map Row.enc := by
  rw [List.map_append, List.map_cons, List.map_take, List.map_drop]
theorem insert_len (rs : List Row) (r : Row) (i : Nat) : (rs.take i ++ r :: rs.drop i).length = rs.length + 1 := by
  rw [List.length_append, List.length_cons, ← Nat.add_assoc, ← List.length_append, List.take_append_drop]
theorem insert_mem (rs : List Row) (r x : Row) (i : Nat) (h : x ∈ rs) : x ∈ rs.take i ++ r :: rs.drop i := by
  rw [← List.take_append_drop i rs] at h
  rcases List.mem_append.mp h with h | h
  · exact List.mem_append.mpr (.inl h)
  · exact List.mem_append.mpr (.inr (List.mem_cons_of_mem _ h))
theorem insert_mem_self (rs : List Row) (r : Row) (i : Nat) : r ∈ rs.take i ++ r :: rs.drop i := List.mem_append.mpr (.inr List.mem_cons_self)
theorem insertD_rows (rs : List Row) (r : Row) (i : Int) (h0 : 0 ≤ i) (h1 : i ≤ rs.length) (hl : rs.length ≤ 1000) : insertD (rs.map Row.enc) [.int i, r.enc] = some ((rs.take i.toNat ++ r :: rs.drop i.toNat).map Row.enc) := by
  rw [← insert_map]
  show (if _ then _ else _) = _
  rw [if_pos (by simp only [List.length_map]; omega)]
theorem ins_loop : ∀ (xs : List Int), (∀ l ∈ xs, 0 ≤ l ∧ l ≤ 9) → ∀ (rs : List Row), (∀ r ∈ rs, r.Ok) → ∀ {many : Int}, (0 < many ∨ xs = []) → many ≤ rs.length → rs.length + xs.length ≤ 500 → ∀ {R s3 s4 : Slot} {q : List Slot} {ts : List Int}, s4.canPut = true → TapeOk ts →
    ∃ (rs' : List Row) (s4' : Slot) (ts' : List Int), sLoop (tName 4) insBody (xs.map .int) ⟨.tape :: .own (.list (rs.map Row.enc)) :: R :: s3 :: s4 :: .sh (.int many) :: q, ts⟩ = .ok .next ⟨.tape :: .own (.list (rs'.map Row.enc)) :: R :: s3 :: s4' :: .sh (.int many) :: q, ts'⟩ ∧
      (∀ r ∈ rs', r.Ok) ∧ rs'.length = rs.length + xs.length ∧ (∀ r ∈ rs, r ∈ rs') ∧ (∀ l ∈ xs, .lab l ∈ rs') ∧ TapeOk ts' := by
  intro x_
  induction x_ with
  | nil =>
    intro hx rs hr many hm hm2 hl R s3 s4 q ts h4 ht
    exact ⟨rs, s4, ts, rfl, hr, rfl, fun r h => h, by simp, ht⟩
  | cons x xs ih =>
    intro hx rs hr many hm hm2 hl R s3 s4 q ts h4 ht
    simp only [List.length_cons] at hl
    have hm0 : 0 < many := hm.resolve_right (by simp)
    refine hide fun b_ hb_ => ?_
    obtain ⟨t, ts1, e, h0, _, ht1⟩ := next_ex ht
    obtain ⟨m0, m1⟩ := fmod_lt h0 hm0
    have hrow : (Row.lab x).Ok := hx x List.mem_cons_self
    have hlen := insert_len rs (.lab x) (t.fmod many).toNat
    obtain ⟨rs', s4', ts', e2, h1, h2, h3, h5, h6⟩ := ih (fun l hl => hx l (List.mem_cons_of_mem _ hl)) (rs.take (t.fmod many).toNat ++ .lab x :: rs.drop (t.fmod many).toNat) (rows_insert_ok hr hrow _) (many := many) (.inl hm0) (by omega) (by omega) (R := R) (s3 := s3) (s4 := .sh (.int x)) (q := q) rfl ht1
    refine hb_ ?_
    refine ⟨rs', s4', ts', ?_, h1, by simp only [List.length_cons]; omega, fun r h => h3 r (insert_mem _ _ _ _ h), ?_, h6⟩
    · have hi := insertD_rows rs (.lab x) (t.fmod many) m0 (by omega) (by omega)
      simp only [Row.enc] at hi
      have e0 : insBody ⟨.tape :: .own (.list (rs.map Row.enc)) :: R :: s3 :: .sh (.int x) :: .sh (.int many) :: q, ts⟩ = .ok .next ⟨.tape :: .own (.list ((rs.take (t.fmod many).toNat ++ .lab x :: rs.drop (t.fmod many).toNat).map Row.enc)) :: R :: s3 :: .sh (.int x) :: .sh (.int many) :: q, ts1⟩ := by
        have hne : many ≠ 0 := by omega
        simp only [insBody]
        simp [-List.map_append, e, hne, hi]
      simp only [List.map_cons, zA, zB, zC, zD, zE, zF, zG, zH, zI, zJ, zK, zL, zM, zN, zO, zP, zQ, zR, zS, zT, zU, zV, zW, zX, wT, wU, wV, wW, wX, wY, wZ, vA, vB, vC, vD, vE, vF, vG, vH, vI, vJ, vK, vL, vM, vN, vO, vP, vQ, vR, vS, vT, vU, vV, vW, vX, vY, vZ, uA, uB, uC, uD, uE, uF, uG, uH, uI, uJ, uK, uL, uM, uN, uO, uP, uQ, uR, uS, uT, uU, uV, uW, uX, uY, uZ, jA, jB, jC, jD, jE, jF, jG, jH, jI, jJ, jK, jL, jM, jN, jO, jP, jQ, jR, jS, jT, jU, jV, jW, List.getElem?_cons_succ, List.getElem?_cons_zero, h4, if_true, List.set_cons_succ, List.set_cons_zero, e0, e2]
    · intro l hl
      rcases List.mem_cons.mp hl with rfl | hl
      · exact h3 _ (insert_mem_self _ _ _)
      · exact h5 l hl

theorem map_erase {α β : Type} (f : α → β) : ∀ (xs : List α) (j : Nat), (xs.map f).eraseIdx j = (xs.eraseIdx j).map f := by
  intro x_
  induction x_ with
  | nil =>
    intro j
    simp
  | cons x xs ih =>
    intro j
    cases j with | zero => rfl | succ j => ?_
    simp [List.eraseIdx_cons_succ, ih j]
theorem erase_ok {rs : List Row} (h : ∀ r ∈ rs, r.Ok) (j : Nat) : ∀ r ∈ rs.eraseIdx j, r.Ok := fun r hr => h r (List.mem_of_mem_eraseIdx hr)
theorem eqv_lab (l : Int) : PyData.eqv (Row.lab l).enc (Row.lab l).enc = true := by simp [Row.enc]
theorem remove_ex {rs : List Row} (h : ∀ r ∈ rs, r.Ok) {l : Int} (hm : .lab l ∈ rs) (hl : rs.length ≤ 1000) : ∃ j, removeD (rs.map Row.enc) [.tuple [.str "label", .int l]] = some ((rs.eraseIdx j).map Row.enc) := by
  have hd7 := dAll_rows h
  have hd8 : okD (.list (rs.map Row.enc)) = true := by rw [okD_dp, dp_list, hd7]
  have hl8 : okD (.tuple [.str "label", .int l]) = true := by kernel_rfl
  obtain ⟨j, ej⟩ : ∃ j, ((rs.map Row.enc).findIdx? fun y => PyData.eqv y (.tuple [.str "label", .int l])) = some j := by
    rw [← Option.isSome_iff_exists, List.findIdx?_isSome, List.any_eq_true]
    exact ⟨_, List.mem_map_of_mem hm, eqv_lab l⟩
  refine ⟨j, ?_⟩
  rw [← map_erase]
  show (if _ then _ else _) = _
  rw [if_pos ⟨by simp only [List.length_map]; omega, hd8, hl8⟩, ej]
  rfl
noncomputable def ifsB : SF := (sIf (tAnd [(tst2 (cmpD .Eq) (eVar 6) (eDat (.int 1))), (tst2 (cmpD .NotEq) (eVar 2) (eList []))]) (sSeq (sMeth 1 removeD [(eTuple [(eDat (.str "label")), (eItem (eVar 2) (eOp2 (binD .Mod) (eVar 7) (eFn1 (fun x => (lenD x).map fun i => (.int i, false)) (eVar 2))))])]) sNil) (sSeq (sIf (tAnd [(tst2 (cmpD .Eq) (eVar 6) (eDat (.int 2))), (tst2 (cmpD .NotEq) (eVar 2) (eList []))]) (sSeq (sMeth 1 insertD [(eVar 7), (eTuple [(eDat (.str "label")), (eItem (eVar 2) (eDat (.int 0)))])]) sNil) (sSeq (sIf (tAnd [(tst2 (cmpD .Eq) (eVar 6) (eDat (.int 3))), (tst2 (cmpD .NotEq) (eVar 2) (eList []))]) (sSeq (sMeth 1 removeD [(eTuple [(eDat (.str "label")), (eItem (eVar 2) (eDat (.int 0)))])]) (sSeq (sMeth 1 appendD [(eTuple [(eDat (.str "label")), (eItem (eVar 2) (eDat (.int 0)))])]) sNil)) (sSeq (sIf (tst2 (cmpD .Eq) (eVar 6) (eDat (.int 4))) (sSeq (sAssign 8 (eCall fn_law_bad [])) (sSeq (sMeth 1 insertD [(eVar 7), (eItem (eVar 8) (eOp2 (binD .Mod) (eCall fn_law_next [(eVar 0)]) (eFn1 (fun x => (lenD x).map fun i => (.int i, false)) (eVar 8))))]) sNil)) (sSeq (sIf (tst2 (cmpD .Eq) (eVar 6) (eDat (.int 5))) (sSeq (sMeth 1 insertD [(eVar 7), (eTuple [(eDat (.str "label")), (eDat (.int 9))])]) sNil) sNil) sNil)) sNil)) sNil)) sNil))
theorem tail_is : tailB = (sSeq (sAssign 6 (eOp2 (binD .Mod) (eCall fn_law_next [(eVar 0)]) (eDat (.int 8)))) (sSeq (sAssign 7 (eOp2 (binD .Mod) (eCall fn_law_next [(eVar 0)]) (eFn2 maxD (eDat (.int 1)) (eFn1 (fun x => (lenD x).map fun i => (.int i, false)) (eVar 1))))) (sSeq ifsB (sSeq (sRet (eVar 1)) sNil)))) := rfl
theorem badL_get (i : Nat) (h : i < 16) : ∃ x b, badL[i]? = some x ∧ (x, b) ∈ badP := by
  have hp : i < badP.length := h
  refine ⟨badP[i].1, badP[i].2, ?_, List.getElem_mem hp⟩
  rw [← badP_L, List.getElem?_map, List.getElem?_eq_getElem hp]
  rfl
noncomputable def bS (rs : List Row) (ls : List Int) (s3 s4 s5 : Slot) (k spot : Int) (s8 : Slot) (ts : List Int) : St := ⟨[.tape, .own (.list (rs.map Row.enc)), .own (.list (ls.map .int)), s3, s4, s5, .sh (.int k), .sh (.int spot), s8], ts⟩
inductive IfsO (L : Out SRes) (ls : List Int) (s3 s4 s5 : Slot) (k spot : Int) : Prop
  | mk (rs' : List Row) (s8' : Slot) (ts' : List Int) (ev : L = .ok .next (bS rs' ls s3 s4 s5 k spot s8' ts')) (ok : ∀ r ∈ rs', r.Ok) (len : rs'.length ≤ 501) (ht : TapeOk ts')
theorem ifs_ex {k spot many : Int} {rs : List Row} {ls : List Int} {s3 s4 s5 s8 : Slot} {ts : List Int} (h8 : s8.canPut = true) (hr : ∀ r ∈ rs, r.Ok) (hl : rs.length ≤ 500) (hls : ∀ l ∈ ls, (0 ≤ l ∧ l ≤ 9) ∧ .lab l ∈ rs) (hll : ls.length ≤ 500) (hs0 : 0 ≤ spot) (hs1 : spot ≤ rs.length) (ht : TapeOk ts) :
    IfsO (ifsB (bS rs ls s3 s4 s5 k spot s8 ts)) ls s3 s4 s5 k spot := by
  have hd7 := dAll_ints 7 ls
  have hq := eqvAll_nil ls
  have hll2 : ls.length ≤ 100000 := by omega
  have tK : ∀ m : Int, tst2 (cmpD .Eq) (eVar 6) (eDat (.int m)) (bS rs ls s3 s4 s5 k spot s8 ts) = .ok (decide (k = m)) (bS rs ls s3 s4 s5 k spot s8 ts) := fun m => by simp [bS, cmp_eq]
  have tN : tst2 (cmpD .NotEq) (eVar 2) (eList []) (bS rs ls s3 s4 s5 k spot s8 ts) = .ok (!decide (ls = [])) (bS rs ls s3 s4 s5 k spot s8 ts) := by simp [bS, cmp_ne, hq, hd7, hll2]
  have tA : ∀ m : Int, tAnd [(tst2 (cmpD .Eq) (eVar 6) (eDat (.int m))), (tst2 (cmpD .NotEq) (eVar 2) (eList []))] (bS rs ls s3 s4 s5 k spot s8 ts) = .ok (decide (k = m) && !decide (ls = [])) (bS rs ls s3 s4 s5 k spot s8 ts) := fun m => by
    rw [yS, tK]
    cases decide (k = m) with
    | false => rfl
    | true =>
      show tAnd [_] _ = _
      rw [yS, tN]
      cases decide (ls = []) <;> rfl
  have tF : ∀ m : Int, (k ≠ m ∨ ls = []) → tAnd [(tst2 (cmpD .Eq) (eVar 6) (eDat (.int m))), (tst2 (cmpD .NotEq) (eVar 2) (eList []))] (bS rs ls s3 s4 s5 k spot s8 ts) = .ok false (bS rs ls s3 s4 s5 k spot s8 ts) := fun m h => by
    rw [tA]
    rcases h with h | h
    · rw [decide_eq_false h]; rfl
    · rw [decide_eq_true h, Bool.not_true, Bool.and_false]
  have tT : ∀ m : Int, k = m → ls ≠ [] → tAnd [(tst2 (cmpD .Eq) (eVar 6) (eDat (.int m))), (tst2 (cmpD .NotEq) (eVar 2) (eList []))] (bS rs ls s3 s4 s5 k spot s8 ts) = .ok true (bS rs ls s3 s4 s5 k spot s8 ts) := fun m h h2 => by
    rw [tA, decide_eq_true h, decide_eq_false h2]; rfl
  have tI : ∀ m : Int, k ≠ m → tst2 (cmpD .Eq) (eVar 6) (eDat (.int m)) (bS rs ls s3 s4 s5 k spot s8 ts) = .ok false (bS rs ls s3 s4 s5 k spot s8 ts) := fun m h => by
    rw [tK, decide_eq_false h]
  by_cases hk4 : k = 4
  · refine hide fun b_ hb_ => ?_
    subst hk4
    obtain ⟨t, ts1, e, h0, _, ht1⟩ := next_ex ht
    obtain ⟨m0, m1⟩ := fmod_lt h0 (show (0 : Int) < 16 by omega)
    obtain ⟨bx, bb, eb, hb⟩ := badL_get (t.fmod 16).toNat (by omega)
    refine hb_ ?_
    have hi := insertD_rows rs (.bad bx bb) spot hs0 hs1 (by omega)
    have hln : badL.length = 16 := rfl
    have m2 : t.fmod 16 < 100000 := by omega
    refine .mk _ (.own (.list badL)) ts1 ?_ (rows_insert_ok hr (r := .bad bx bb) hb spot.toNat) (by rw [insert_len]; omega) ht1
    simp only [Row.enc] at hi
    refine elseF (tF 1 (.inl (by decide))) (seq1 (elseF (tF 2 (.inl (by decide))) (seq1 (elseF (tF 3 (.inl (by decide))) (seq1 (thenT (tK 4) ?_))))))
    simp [-List.map_append, bS, h8, law_bad_ev, e, hln, m0, m2, eb, hi]
  · by_cases hk5 : k = 5
    · subst hk5
      have hi := insertD_rows rs (.lab 9) spot hs0 hs1 (by omega)
      refine .mk _ s8 ts ?_ (rows_insert_ok hr (r := .lab 9) (show (0:Int) ≤ 9 ∧ (9:Int) ≤ 9 by omega) spot.toNat) (by rw [insert_len]; omega) ht
      simp only [Row.enc] at hi
      refine elseF (tF 1 (.inl (by decide))) (seq1 (elseF (tF 2 (.inl (by decide))) (seq1 (elseF (tF 3 (.inl (by decide))) (seq1 (elseF (tI 4 (by decide)) (seq1 (thenT (tK 5) (seq1 ?_)))))))))
      simp [-List.map_append, bS, hi]
    · by_cases hn : ls = []
      · subst hn
        refine .mk rs s8 ts ?_ hr (by omega) ht
        exact elseF (tF 1 (.inr rfl)) (seq1 (elseF (tF 2 (.inr rfl)) (seq1 (elseF (tF 3 (.inr rfl)) (seq1 (elseF (tI 4 hk4) (seq1 (elseF (tI 5 hk5) rfl))))))))
      · have hp : 0 < ls.length := List.length_pos_iff.mpr hn
        have hg0 : ls[0]? = some ls[0] := List.getElem?_eq_getElem hp
        obtain ⟨l0, el0⟩ : ∃ l0, ls[0] = l0 := ⟨_, rfl⟩
        obtain ⟨hl0, hm0⟩ := hls ls[0] (List.getElem_mem hp)
        rw [el0] at hg0 hl0 hm0
        by_cases hk1 : k = 1
        · refine hide fun b_ hb_ => ?_
          subst hk1
          have hpi : (0 : Int) < ls.length := by omega
          obtain ⟨m0, m1⟩ := fmod_lt hs0 hpi
          have hlt : (spot.fmod ls.length).toNat < ls.length := by omega
          have hgi : ls[(spot.fmod ls.length).toNat]? = some ls[(spot.fmod ls.length).toNat] := List.getElem?_eq_getElem hlt
          obtain ⟨_, hmi⟩ := hls _ (List.getElem_mem hlt)
          obtain ⟨j, ej⟩ := remove_ex hr hmi (by omega)
          refine hb_ ?_
          have hne : (ls.length : Int) ≠ 0 := by omega
          have hne' : ls.length ≠ 0 := by omega
          have m2 : spot.fmod ls.length < 100000 := by omega
          refine .mk (rs.eraseIdx j) s8 ts ?_ (erase_ok hr j) (by have := List.length_eraseIdx_le rs j; omega) ht
          refine thenT (tT 1 rfl hn) (seq1 ?_)
          simp [-List.map_append, bS, hll2, hne, hne', m0, m2, hgi, ej]
        · by_cases hk2 : k = 2
          · subst hk2
            have hi := insertD_rows rs (.lab l0) spot hs0 hs1 (by omega)
            refine .mk _ s8 ts ?_ (rows_insert_ok hr (r := .lab l0) hl0 spot.toNat) (by rw [insert_len]; omega) ht
            simp only [Row.enc] at hi
            refine elseF (tF 1 (.inl (by decide))) (seq1 (thenT (tT 2 rfl hn) (seq1 ?_)))
            simp [-List.map_append, bS, hg0, hi]
          · by_cases hk3 : k = 3
            · refine hide fun b_ hb_ => ?_
              subst hk3
              obtain ⟨j, ej⟩ := remove_ex hr hm0 (by omega)
              refine hb_ ?_
              have hle := List.length_eraseIdx_le rs j
              have happ : appendD ((rs.eraseIdx j).map Row.enc) [.tuple [.str "label", .int l0]] = some ((rs.eraseIdx j ++ [Row.lab l0]).map Row.enc) := by
                show (if _ then _ else _) = _
                rw [if_pos (by simp only [List.length_map]; omega), List.map_append]
                rfl
              refine .mk (rs.eraseIdx j ++ [.lab l0]) s8 ts ?_ ?_ (by simp only [List.length_append, List.length_cons, List.length_nil]; omega) ht
              · refine elseF (tF 1 (.inl (by decide))) (seq1 (elseF (tF 2 (.inl (by decide))) (seq1 (thenT (tT 3 rfl hn) ?_))))
                simp [-List.map_append, bS, hg0, ej, happ]
              · intro r h
                rcases List.mem_append.mp h with h | h
                · exact erase_ok hr j r h
                · simp only [List.mem_singleton] at h; subst h; exact hl0
            · refine .mk rs s8 ts ?_ hr (by omega) ht
              exact elseF (tF 1 (.inl hk1)) (seq1 (elseF (tF 2 (.inl hk2)) (seq1 (elseF (tF 3 (.inl hk3)) (seq1 (elseF (tI 4 hk4) (seq1 (elseF (tI 5 hk5) rfl))))))))
theorem tail_ex {many : Int} {rs : List Row} {ls : List Int} {s3 s4 s5 s6 s7 s8 : Slot} {ts : List Int} (h6 : s6.canPut = true) (h7 : s7.canPut = true) (h8 : s8.canPut = true) (hr : ∀ r ∈ rs, r.Ok) (hl : rs.length ≤ 500) (hls : ∀ l ∈ ls, (0 ≤ l ∧ l ≤ 9) ∧ .lab l ∈ rs) (hll : ls.length ≤ 500) (ht : TapeOk ts) :
    ∃ (rs' : List Row) (st' : St), tailB ⟨[.tape, .own (.list (rs.map Row.enc)), .own (.list (ls.map .int)), s3, s4, s5, s6, s7, s8], ts⟩ = .ok (.ret (.list (rs'.map Row.enc)) true) st' ∧
      (∀ r ∈ rs', r.Ok) ∧ rs'.length ≤ 501 ∧ TapeOk st'.ts := by
  refine hide fun b_ hb_ => ?_
  obtain ⟨t, ts1, e, h0, _, ht1⟩ := next_ex ht
  obtain ⟨u, ts2, e2, hu0, _, ht2⟩ := next_ex ht1
  obtain ⟨mx, emx⟩ : ∃ mx : Int, mx = if (rs.length : Int) > 1 then (rs.length : Int) else 1 := ⟨_, rfl⟩
  have hmx : 0 < mx := by omega
  obtain ⟨m0, m1⟩ := fmod_lt hu0 hmx
  obtain ⟨rs', s8', ts', e3, h1, h2, h3⟩ := ifs_ex (k := t.fmod 8) (spot := u.fmod mx) (many := many) (s3 := s3) (s4 := s4) (s5 := s5) h8 hr hl hls hll m0 (by omega) ht2
  refine hb_ ?_
  refine ⟨rs', ⟨[.tape, .sh (.list (rs'.map Row.enc)), .own (.list (ls.map .int)), s3, s4, s5, .sh (.int (t.fmod 8)), .sh (.int (u.fmod mx)), s8'], ts'⟩, ?_, h1, h2, h3⟩
  have hmax : maxD (.int 1) (.int rs.length) = some (.int mx, false) := by rw [emx]; rfl
  have hne : mx ≠ 0 := by omega
  have hll3 : rs.length ≤ 100000 := by omega
  simp only [bS] at e3
  simp only [tail_is]
  simp [e, e2, h6, h7, hne, hll3, hmax, e3]
theorem block_ex {ts : List Int} (h : TapeOk ts) : ∃ (rs : List Row) (ts' : List Int), fn_law_block [.tape] ts = .ok (.list (rs.map Row.enc)) true ts' ∧ (∀ r ∈ rs, r.Ok) ∧ rs.length ≤ 501 ∧ TapeOk ts' := by
  refine hide fun b_ hb_ => ?_
  obtain ⟨rs0, ts1, e1, h1, ht1, hl1⟩ := reals_ex (q := List.replicate 7 .unset) h
  obtain ⟨ls, s3, s4, e2, h2, hl2, h3, h4⟩ := out_loop rs0 h1 [] (by simp) (by simp; omega) (R := .lent (.list (rs0.map Row.enc))) (s3 := .unset) (s4 := .unset) (q := List.replicate 4 .unset) (ts := ts1) rfl rfl
  have hpos : 0 < (rs0.length : Int) ∨ ls = [] := by
    rcases rs0 with _ | ⟨r, rs⟩
    · right
      simp only [List.length_nil, Nat.mul_zero, Nat.zero_add, Nat.le_zero_eq] at hl2
      exact List.length_eq_zero_iff.mp hl2
    · left; simp only [List.length_cons]; omega
  simp only [List.length_nil, Nat.zero_add] at hl2
  obtain ⟨rs1, s4', ts2, e3, h5, h6, h7, h8, ht2⟩ := ins_loop ls h2 rs0 (fun r hr => (h1 r hr).1) hpos (Int.le_refl _) (by omega) (R := .lent (.list (ls.map .int))) (s3 := s3) (s4 := s4) (q := List.replicate 3 .unset) h4 ht1
  obtain ⟨rs2, st', e4, h9, h10, ht3⟩ := tail_ex (many := rs0.length) (rs := rs1) (ls := ls) (s3 := s3) (s4 := s4') (s5 := .sh (.int rs0.length)) (s6 := .unset) (s7 := .unset) (s8 := .unset) rfl rfl rfl h5 (by omega) (fun l hl => ⟨h2 l hl, h8 l hl⟩) (by omega) ht2
  refine hb_ ?_
  refine ⟨rs2, st'.ts, ?_, h9, h10, ht3⟩
  have hll3 : rs0.length ≤ 100000 := by omega
  have hn3 : s3.notLent = true := by cases s3 <;> first | rfl | cases h3
  have hn4 : s4.notLent = true := by cases s4 <;> first | rfl | cases h4
  have hnl : ∀ x, Slot.notLent (.own x) = true ∧ Slot.notLent (.sh x) = true := fun x => ⟨rfl, rfl⟩
  have hnu : Slot.notLent .unset = true ∧ Slot.notLent .tape = true := ⟨rfl, rfl⟩
  simp only [List.replicate, List.map_nil] at e1 e2 e3 e4
  simp only [fn_law_block, block_is]
  simp [e1, e2, e3, e4, hll3, hnl, hnu, hn3, hn4]
end Mine
namespace Mine
open PySem PySem.W PySem.Calls PyProof.Rows

noncomputable def digB : SF := (sSeq (sIf (tst2 (cmpD .Gt) (eVar 3) (eDat (.int 0))) (sSeq (sMeth 1 appendD [(eOp2 (binD .Mod) (eVar 3) (eDat (.int 1013)))]) (sSeq (sAssign 3 (eOp2 (binD .FloorDiv) (eVar 3) (eDat (.int 1013)))) sNil)) sNil) sNil)
noncomputable def numB : SF := (sSeq (sAssign 3 (eIf (tst2 (cmpD .GtE) (eVar 2) (eDat (.int 0))) (eVar 2) (eOp2 (binD .Sub) (eDat (.int 7)) (eVar 2)))) (sSeq (sMeth 1 appendD [(eOp2 (binD .Mod) (eVar 3) (eDat (.int 1013)))]) (sSeq (sAssign 3 (eOp2 (binD .FloorDiv) (eVar 3) (eDat (.int 1013)))) (sSeq (sForR (eDat (.int 30)) (tName 4) digB) sNil))))
theorem row_is : F_law_row = (sSeq (sAssign 1 (eList [])) (sSeq (sFor (eOp1 (upD 40) (eVar 0)) (tName 2) numB) (sSeq (sAssign 1 (eOp1 (upD 120) (eVar 1))) (sSeq (sMeth 1 reverseD []) (sSeq (sRet (eVar 1)) sNil))))) := rfl
theorem upD_l : ∀ b xs, upD b (.list xs) = if xs.length ≤ 100000 then some (.list (xs.take b), true) else none := qO
theorem app_l : ∀ xs d, appendD xs [d] = if xs.length ≤ 9999 then some (xs ++ [d]) else none := fun _ _ => rfl
theorem rev_l : ∀ xs, reverseD xs [] = if xs.length ≤ 10000 then some xs.reverse else none := fun _ => rfl
theorem app_ints (ls : List Int) (l : Int) (h : ls.length ≤ 9999) : appendD (ls.map .int) [.int l] = some ((ls ++ [l]).map .int) := by rw [app_l, List.length_map, if_pos h, List.map_append]; rfl
noncomputable def Dig (ls : List Int) : Prop := ∀ t ∈ ls, 0 ≤ t ∧ t ≤ 1012
theorem Dig.add {ls : List Int} {t : Int} (h : Dig ls) (h0 : 0 ≤ t) : Dig (ls ++ [t.fmod 1013]) := by
  intro x hx
  rcases List.mem_append.mp hx with h1 | h1
  · exact h x h1
  · simp only [List.mem_singleton] at h1
    obtain ⟨a, b⟩ := fmod_lt h0 (show (0 : Int) < 1013 by omega)
    omega
theorem dig_loop : ∀ (xs : List PyData) {a b s4 : Slot} {v : Int} (ls : List Int) {ts : List Int}, s4.canPut = true → 0 ≤ v → Dig ls → ls.length + xs.length ≤ 9000 →
    ∃ (ls' : List Int) (v' : Int) (s4' : Slot), sLoop (tName 4) digB xs ⟨[a, .own (.list (ls.map .int)), b, .sh (.int v), s4], ts⟩ = .ok .next ⟨[a, .own (.list (ls'.map .int)), b, .sh (.int v'), s4'], ts⟩ ∧ Dig ls' ∧ ls'.length ≤ ls.length + xs.length ∧ s4'.canPut = true := by
  intro x_
  induction x_ with
  | nil =>
    intro a b s4 v ls ts h4 hv hd hl
    exact ⟨ls, v, s4, rfl, hd, Nat.le_refl _, h4⟩
  | cons x xs ih =>
    intro a b s4 v ls ts h4 hv hd hl
    simp only [List.length_cons] at hl
    by_cases h : 0 < v
    · refine hide fun b_ hb_ => ?_
      obtain ⟨ls', v', s4', e, h1, h2, h3⟩ := ih (a := a) (b := b) (s4 := .sh x) (v := v.fdiv 1013) (ls ++ [v.fmod 1013]) (ts := ts) rfl (Int.fdiv_nonneg hv (by omega)) (hd.add hv) (by simp only [List.length_append, List.length_cons, List.length_nil]; omega)
      refine hb_ ?_
      refine ⟨ls', v', s4', ?_, h1, by simp only [List.length_append, List.length_cons, List.length_nil] at h2 ⊢; omega, h3⟩
      have ha := app_ints ls (v.fmod 1013) (by omega)
      have e0 : digB ⟨[a, .own (.list (ls.map .int)), b, .sh (.int v), .sh x], ts⟩ = .ok .next ⟨[a, .own (.list ((ls ++ [v.fmod 1013]).map .int)), b, .sh (.int (v.fdiv 1013)), .sh x], ts⟩ := by
        simp [-List.map_append, digB, h, ha]
      simp only [zA, zB, zC, zD, zE, zF, zG, zH, zI, zJ, zK, zL, zM, zN, zO, zP, zQ, zR, zS, zT, zU, zV, zW, zX, wT, wU, wV, wW, wX, wY, wZ, vA, vB, vC, vD, vE, vF, vG, vH, vI, vJ, vK, vL, vM, vN, vO, vP, vQ, vR, vS, vT, vU, vV, vW, vX, vY, vZ, uA, uB, uC, uD, uE, uF, uG, uH, uI, uJ, uK, uL, uM, uN, uO, uP, uQ, uR, uS, uT, uU, uV, uW, uX, uY, uZ, jA, jB, jC, jD, jE, jF, jG, jH, jI, jJ, jK, jL, jM, jN, jO, jP, jQ, jR, jS, jT, jU, jV, jW, List.getElem?_cons_succ, List.getElem?_cons_zero, h4, if_true, List.set_cons_succ, List.set_cons_zero, e0, e]
    · refine hide fun b_ hb_ => ?_
      obtain ⟨ls', v', s4', e, h1, h2, h3⟩ := ih (a := a) (b := b) (s4 := .sh x) (v := v) ls (ts := ts) rfl hv hd (by omega)
      refine hb_ ?_
      refine ⟨ls', v', s4', ?_, h1, by simp only [List.length_cons]; omega, h3⟩
      have e0 : digB ⟨[a, .own (.list (ls.map .int)), b, .sh (.int v), .sh x], ts⟩ = .ok .next ⟨[a, .own (.list (ls.map .int)), b, .sh (.int v), .sh x], ts⟩ := by
        simp [-List.map_append, digB, h]
      simp only [zA, zB, zC, zD, zE, zF, zG, zH, zI, zJ, zK, zL, zM, zN, zO, zP, zQ, zR, zS, zT, zU, zV, zW, zX, wT, wU, wV, wW, wX, wY, wZ, vA, vB, vC, vD, vE, vF, vG, vH, vI, vJ, vK, vL, vM, vN, vO, vP, vQ, vR, vS, vT, vU, vV, vW, vX, vY, vZ, uA, uB, uC, uD, uE, uF, uG, uH, uI, uJ, uK, uL, uM, uN, uO, uP, uQ, uR, uS, uT, uU, uV, uW, uX, uY, uZ, jA, jB, jC, jD, jE, jF, jG, jH, jI, jJ, jK, jL, jM, jN, jO, jP, jQ, jR, jS, jT, jU, jV, jW, List.getElem?_cons_succ, List.getElem?_cons_zero, h4, if_true, List.set_cons_succ, List.set_cons_zero, e0, e]
theorem num_loop : ∀ (xs ls : List Int) {a s2 s3 s4 : Slot} {ts : List Int}, s2.canPut = true → s3.canPut = true → s4.canPut = true → Dig ls → ls.length + 31 * xs.length ≤ 9000 →
    ∃ (ls' : List Int) (s2' s3' s4' : Slot), sLoop (tName 2) numB (xs.map .int) ⟨[a, .own (.list (ls.map .int)), s2, s3, s4], ts⟩ = .ok .next ⟨[a, .own (.list (ls'.map .int)), s2', s3', s4'], ts⟩ ∧ Dig ls' ∧ ls'.length ≤ ls.length + 31 * xs.length := by
  intro x_
  induction x_ with
  | nil =>
    intro ls a s2 s3 s4 ts h2 h3 h4 hd hl
    exact ⟨ls, s2, s3, s4, rfl, hd, Nat.le_refl _⟩
  | cons x xs ih =>
    intro ls a s2 s3 s4 ts h2 h3 h4 hd hl
    simp only [List.length_cons] at hl
    refine hide fun b_ hb_ => ?_
    obtain ⟨v, ev⟩ : ∃ v : Int, v = if 0 ≤ x then x else 7 - x := ⟨_, rfl⟩
    have hv : 0 ≤ v := by omega
    have ha := app_ints ls (v.fmod 1013) (by omega)
    obtain ⟨ls1, v1, s4', e, h5, h6, h7⟩ := dig_loop ((List.range 30).map fun (k : Nat) => PyData.int k) (a := a) (b := .sh (.int x)) (s4 := s4) (v := v.fdiv 1013) (ls ++ [v.fmod 1013]) (ts := ts) h4 (Int.fdiv_nonneg hv (by omega)) (hd.add hv) (by simp only [List.length_append, List.length_cons, List.length_nil, List.length_map, List.length_range]; omega)
    simp only [List.length_append, List.length_cons, List.length_nil, List.length_map, List.length_range] at h6
    obtain ⟨ls2, a2, a3, a4, e2, h8, h9⟩ := ih ls1 (a := a) (s2 := .sh (.int x)) (s3 := .sh (.int v1)) (s4 := s4') (ts := ts) rfl rfl h7 h5 (by omega)
    refine hb_ ?_
    refine ⟨ls2, a2, a3, a4, ?_, h8, by simp only [List.length_cons]; omega⟩
    have e0 : numB ⟨[a, .own (.list (ls.map .int)), .sh (.int x), s3, s4], ts⟩ = .ok .next ⟨[a, .own (.list (ls1.map .int)), .sh (.int x), .sh (.int v1), s4'], ts⟩ := by
      have hr : (30 : Int).toNat = 30 := rfl
      by_cases h0 : 0 ≤ x
      · rw [if_pos h0] at ev
        subst ev
        simp [-List.map_append, -List.range_succ, numB, h0, h3, ha, hr, e]
      · rw [if_neg h0] at ev
        subst ev
        simp [-List.map_append, -List.range_succ, numB, h0, h3, ha, hr, e]
    simp only [List.map_cons, zA, zB, zC, zD, zE, zF, zG, zH, zI, zJ, zK, zL, zM, zN, zO, zP, zQ, zR, zS, zT, zU, zV, zW, zX, wT, wU, wV, wW, wX, wY, wZ, vA, vB, vC, vD, vE, vF, vG, vH, vI, vJ, vK, vL, vM, vN, vO, vP, vQ, vR, vS, vT, vU, vV, vW, vX, vY, vZ, uA, uB, uC, uD, uE, uF, uG, uH, uI, uJ, uK, uL, uM, uN, uO, uP, uQ, uR, uS, uT, uU, uV, uW, uX, uY, uZ, jA, jB, jC, jD, jE, jF, jG, jH, jI, jJ, jK, jL, jM, jN, jO, jP, jQ, jR, jS, jT, jU, jV, jW, List.getElem?_cons_succ, List.getElem?_cons_zero, h2, if_true, List.set_cons_succ, List.set_cons_zero, e0, e2]
theorem row_ex {script : List Int} (h : script.length ≤ 100) : ∃ row, fn_law_row [.tape] script = .ok (.list (row.map .int)) true script ∧ TapeOk row := by
  refine hide fun b_ hb_ => ?_
  obtain ⟨ls, s2, s3, s4, e, h1, h2⟩ := num_loop (script.take 40) [] (a := .tape) (s2 := .unset) (s3 := .unset) (s4 := .unset) (ts := script) rfl rfl rfl (by intro t ht; cases ht) (by simp only [List.length_take, List.length_nil]; omega)
  refine hb_ ?_
  have hl1 : script.length ≤ 100000 := by omega
  have hl2 : ls.length ≤ 100000 := by simp only [List.length_take, List.length_nil] at h2; omega
  have hr := rev_l ((ls.take 120).map .int)
  rw [if_pos (by simp only [List.length_map, List.length_take]; omega), ← List.map_reverse] at hr
  refine ⟨(ls.take 120).reverse, ?_, by simp only [List.length_reverse, List.length_take]; omega, fun t ht => h1 t (List.mem_of_mem_take (List.mem_reverse.mp ht))⟩
  simp only [fn_law_row, row_is]
  simp only [List.map_nil, List.map_take] at e
  simp only [List.map_take] at hr
  simp [-List.map_reverse, upD_l, hl1, e, hl2, hr]
end Mine
namespace Mine
open PySem PySem.W PySem.Calls PyProof.Rows

noncomputable def encW (w : List (Int × Int)) : List (PyData × PyData) := w.map fun p => (.int p.1, .int p.2)
noncomputable def look (l : Int) : List (Int × Int) → Option Int
  | [] => none
  | (k, a) :: r => if k = l then some a else look l r
noncomputable def Row.key : Row → Option Int
  | .lab k => some k
  | .try_ l n => none
  | .retry l => none
  | .trust l => none
  | .term a b c d => none
  | .con ps l => none
  | .str ps l => none
  | .call a b => none
  | .getc v r => none
  | .proc => none
  | .bad x b => none
noncomputable def la : List Row → List (Int × Int) → Int → Option (List (Int × Int))
  | [], w, _ => some w
  | r :: rs, w, a => if r.looksLab then (match r.key with
    | some k => if (look k w).isSome then none else la rs (w ++ [(k, a)]) a
    | none => none) else la rs w (a + 1)
noncomputable def nreal : List Row → Int
  | [] => 0
  | r :: rs => if r.looksLab then nreal rs else 1 + nreal rs
noncomputable def res (w : List (Int × Int)) (e l : Int) : Option Int := if l = -1 then some 2 else match look l w with
  | none => none
  | some a => if e ≤ a then none else some a
noncomputable def rtab (w : List (Int × Int)) (e : Int) : List (PyData × Int) → List (PyData × PyData) → Option (List (PyData × PyData))
  | [], t => some t
  | (k, l) :: r, t => if (dget k t).isSome then none else match res w e l with
    | none => none
    | some a => rtab w e r (dset k (.int a) t)
noncomputable def cpair (p : (Int × Int) × Int) : PyData × Int := (.tuple [.int p.1.1, .int p.1.2], p.2)
noncomputable def spair (p : Int × Int) : PyData × Int := (.int p.1, p.2)
noncomputable def pe (p : PyData × Int) : PyData := .tuple [p.1, .int p.2]
noncomputable def res1 (w : List (Int × Int)) (e : Int) : Row → Option PyData
  | .lab k => none
  | .try_ l n => (res w e l).map fun a => .tuple [.str "try", .int a, .int n]
  | .retry l => (res w e l).map fun a => .tuple [.str "retry", .int a]
  | .trust l => (res w e l).map fun a => .tuple [.str "trust", .int a]
  | .term a b c d => (res w e a).bind fun a => (res w e b).bind fun b => (res w e c).bind fun c => (res w e d).map fun d => .tuple [.str "switch_on_term", .int a, .int b, .int c, .int d]
  | .con ps l => (rtab w e (ps.map cpair) []).bind fun t => (res w e l).map fun a => .tuple [.str "switch_on_constant", .dict t, .int a]
  | .str ps l => (rtab w e (ps.map spair) []).bind fun t => (res w e l).map fun a => .tuple [.str "switch_on_structure", .dict t, .int a]
  | .call a b => some (.tuple [.str "call", .int a, .int b])
  | .getc v r => some (.tuple [.str "get_constant", .tuple [.int 5, .int v], .tuple [.str "x", .int r]])
  | .proc => some (.tuple [.str "proceed"])
  | .bad x b => none
noncomputable def resAll (w : List (Int × Int)) (e : Int) : List Row → Option (List PyData)
  | [] => some []
  | r :: rs => if r.looksLab then resAll w e rs else (res1 w e r).bind fun x => (resAll w e rs).map fun l => x :: l
noncomputable def asm (rs : List Row) (base : Int) : Option (List PyData) := (la rs [] base).bind fun w => resAll w (base + nreal rs) rs

theorem dget_w (l : Int) : ∀ w : List (Int × Int), dget (.int l) (encW w) = (look l w).map PyData.int := by
  intro x_
  induction x_ with
  | nil =>
    exact rfl
  | cons h0_ r ih =>
    obtain ⟨k, a⟩ := h0_
    have ih := ih
    unfold encW at ih ⊢
    simp only [List.map_cons, dget, look, eqv_int, decide_eq_true_eq]
    split
    · rfl
    · exact ih
theorem keys_w (l : Int) (w : List (Int × Int)) : keysOk (.int l) (encW w) = true := by
  have : (encW w).all (fun p => isIntK p.1) = true := by
    rw [List.all_eq_true]
    intro p hp
    obtain ⟨q, _, rfl⟩ := List.mem_map.mp hp
    rfl
  unfold keysOk
  rw [this]
  rfl
theorem dset_w (l a : Int) : ∀ w : List (Int × Int), look l w = none → dset (.int l) (.int a) (encW w) = encW (w ++ [(l, a)]) := by
  intro x_
  induction x_ with
  | nil =>
    intro _
    exact rfl
  | cons h0_ r ih =>
    obtain ⟨k, b⟩ := h0_
    intro h
    simp only [look] at h
    split at h
    · cases h
    · rename_i hk
      have ih := ih h
      unfold encW at ih ⊢
      simp only [List.map_cons, dset, eqv_int, decide_eq_true_eq, hk, if_false, List.cons_append, ih]
theorem len_w (w : List (Int × Int)) : (encW w).length = w.length := by simp [encW]
theorem look_front {l : Int} (h : 0 ≤ l) (w : List (Int × Int)) : look l ((-1, 2) :: w) = look l w := by
  simp only [look]
  rw [if_neg (by omega)]
theorem look_app (l : Int) : ∀ (w v : List (Int × Int)), look l (w ++ v) = match look l w with | some a => some a | none => look l v := by
  intro x_
  induction x_ with
  | nil =>
    intro v
    exact rfl
  | cons h0_ r ih =>
    obtain ⟨k, a⟩ := h0_
    intro v
    simp only [List.cons_append, look]
    split
    · rfl
    · exact ih v
noncomputable def Below (w : List (Int × Int)) (e : Int) : Prop := ∀ l a, look l w = some a → a ≤ e
theorem la_below : ∀ (rs : List Row) (w w' : List (Int × Int)) (a : Int), la rs w a = some w' → Below w a → Below w' (a + nreal rs) := by
  intro x_
  induction x_ with
  | nil =>
    intro w w' a h hb
    simp only [la, Option.some.injEq] at h
    subst h
    simp only [nreal, Int.add_zero]
    exact hb
  | cons r rs ih =>
    intro w w' a h hb
    simp only [la] at h
    simp only [nreal]
    split at h
    · rename_i hl
      rw [if_pos hl]
      split at h
      · rename_i k hk
        split at h
        · cases h
        · refine ih _ _ _ h ?_
          intro l b hb2
          rw [look_app] at hb2
          split at hb2
          · rename_i c hc
            cases hb2
            exact hb l _ hc
          · simp only [look] at hb2
            split at hb2
            · cases hb2; exact Int.le_refl _
            · cases hb2
      · cases h
    · rename_i hl
      rw [if_neg hl]
      have := ih _ _ _ h (fun l b hb2 => by have := hb l b hb2; omega)
      rwa [← Int.add_assoc]
theorem res_bad : ∀ (rs : List Row) (w : List (Int × Int)) (e : Int), (∃ r ∈ rs, r.isBad = true ∧ r.looksLab = false) → resAll w e rs = none := by
  intro x_
  induction x_ with
  | nil =>
    intro w e h
    obtain ⟨r, hr, _⟩ := h; cases hr
  | cons r rs ih =>
    intro w e h
    obtain ⟨x, hx, hb, hl⟩ := h
    simp only [resAll]
    rcases List.mem_cons.mp hx with rfl | hx
    · rw [if_neg (by rw [hl]; decide)]
      cases x <;> first | rfl | cases hb
    · rw [ih w e ⟨x, hx, hb, hl⟩]
      split
      · rfl
      · cases res1 w e r <;> rfl
theorem la_bad : ∀ (rs : List Row) (w : List (Int × Int)) (a : Int), (∃ r ∈ rs, r.isBad = true ∧ r.looksLab = true) → la rs w a = none := by
  intro x_
  induction x_ with
  | nil =>
    intro w a h
    obtain ⟨r, hr, _⟩ := h; cases hr
  | cons r rs ih =>
    intro w a h
    obtain ⟨x, hx, hb, hl⟩ := h
    simp only [la]
    rcases List.mem_cons.mp hx with rfl | hx
    · rw [if_pos hl]
      cases x <;> first | rfl | cases hb
    · split
      · split
        · split
          · rfl
          · exact ih _ _ ⟨x, hx, hb, hl⟩
        · rfl
      · exact ih _ _ ⟨x, hx, hb, hl⟩
theorem asm_bad {rs : List Row} {base : Int} (h : ∃ r ∈ rs, r.isBad = true) : asm rs base = none := by
  obtain ⟨r, hr, hb⟩ := h
  unfold asm
  cases hl : r.looksLab with
  | true => rw [la_bad rs [] base ⟨r, hr, hb, hl⟩]; rfl
  | false =>
    cases la rs [] base with
    | none => rfl
    | some w => exact res_bad rs _ _ ⟨r, hr, hb, hl⟩

theorem eqv_badL : ∀ x ∈ badL, PyData.eqv x x = true := by
  simp only [badL, List.forall_mem_cons]
  refine ⟨?_, ?_, ?_, ?_, ?_, ?_, ?_, ?_, ?_, ?_, ?_, ?_, ?_, ?_, ?_, ?_, fun _ h => by cases h⟩ <;> rfl
theorem eqv_ne {a b : Int} (h : a ≠ b) : PyData.eqv (.int a) (.int b) = false := by rw [eqv_int]; exact decide_eq_false h
theorem bad_any {r : Row} (h : r.Ok) : (badL.any fun y => PyData.eqv y r.enc) = r.isBad := by
  cases r with
  | bad x b =>
    show _ = true
    rw [List.any_eq_true]
    exact ⟨x, badP_mem h, eqv_badL x (badP_mem h)⟩
  | con ps l =>
    have : PyData.eqvAll [.tuple [.tuple [.int 0, .int 1], .int (-1)]] (ps.map ckey) = false := by
      cases ps with
      | nil => rfl
      | cons p ps =>
        have := (h.2.2 p List.mem_cons_self).1
        have e : PyData.eqvAll [.tuple [.tuple [.int 0, .int 1], .int (-1)]] ((p :: ps).map ckey) = (((PyData.eqv (.int 0) (.int p.1.1) && (PyData.eqv (.int 1) (.int p.1.2) && true)) && (PyData.eqv (.int (-1)) (.int p.2) && true)) && PyData.eqvAll [] (ps.map ckey)) := by kernel_rfl
        rw [e, eqv_ne (by omega)]
        rfl
    have e : (badL.any fun y => PyData.eqv y (Row.con ps l).enc) = (PyData.eqv (.list []) (.tuple (ps.map ckey)) && (PyData.eqv (.int (-1)) (.int l) && true) || (PyData.eqvAll [.tuple [.tuple [.int 0, .int 1], .int (-1)]] (ps.map ckey) && (PyData.eqv (.int (-1)) (.int l) && true) || false)) := by kernel_rfl
    rw [e, this]
    kernel_rfl
  | str ps l =>
    have : PyData.eqvAll [.tuple [.int (-1), .int (-1)]] (ps.map skey) = false := by
      cases ps with
      | nil => rfl
      | cons p ps =>
        have := (h.2.2 p List.mem_cons_self).1
        have e : PyData.eqvAll [.tuple [.int (-1), .int (-1)]] ((p :: ps).map skey) = ((PyData.eqv (.int (-1)) (.int p.1) && (PyData.eqv (.int (-1)) (.int p.2) && true)) && PyData.eqvAll [] (ps.map skey)) := by kernel_rfl
        rw [e, eqv_ne (by omega)]
        rfl
    have e : (badL.any fun y => PyData.eqv y (Row.str ps l).enc) = (PyData.eqvAll [.tuple [.int (-1), .int (-1)]] (ps.map skey) && (PyData.eqv (.int (-1)) (.int l) && true) || false) := by kernel_rfl
    rw [e, this]
    rfl
  | try_ l n =>
    have := h.1.1
    have e : (badL.any fun y => PyData.eqv y (Row.try_ l n).enc) = ((PyData.eqv (.int 0) (.int l) && false) || ((PyData.eqv (.int (-2)) (.int l) && (PyData.eqv (.int 1) (.int n) && true)) || false)) := by kernel_rfl
    rw [e, eqv_ne (a := -2) (by omega), Bool.and_false]
    rfl
  | lab k =>
    have := h.1
    have e : (badL.any fun y => PyData.eqv y (Row.lab k).enc) = (PyData.eqv (.int (-1)) (.int k) && true || false) := by kernel_rfl
    rw [e, eqv_ne (by omega)]
    rfl
  | call a b =>
    have := h.1
    have e : (badL.any fun y => PyData.eqv y (Row.call a b).enc) = (PyData.eqv (.int (-1)) (.int a) && (PyData.eqv (.int 0) (.int b) && true) || false) := by kernel_rfl
    rw [e, eqv_ne (by omega)]
    rfl
  | _ => rfl
noncomputable def dueB1 : SF := (sSeq (sIf (tst2 (cmpD .In) (eVar 4) (eCall fn_law_bad [])) (sSeq (sRet (eDat .none)) sNil) sNil) (sSeq (sIf (tst2 (cmpD .Eq) (eItem (eVar 4) (eDat (.int 0))) (eDat (.str "label"))) (sSeq (sIf (tst2 (cmpD .In) (eItem (eVar 4) (eDat (.int 1))) (eVar 2)) (sSeq (sRet (eDat .none)) sNil) sNil) (sSeq (sSet 2 (eItem (eVar 4) (eDat (.int 1))) (eOp2 (binD .Add) (eVar 1) (eVar 3))) sNil)) (sSeq (sAug 3 (eDat (.int 1))) sNil)) sNil))
noncomputable def labB : SF := (sSeq (sIf (tOr [(tst2 (cmpD .NotIn) (eVar 6) (eVar 2)), (tAnd [(tst2 (cmpD .GtE) (eVar 6) (eDat (.int 0))), (tst2 (cmpD .Eq) (eItem (eVar 2) (eVar 6)) (eOp2 (binD .Add) (eVar 1) (eVar 3)))])]) (sSeq (sRet (eDat .none)) sNil) sNil) sNil)
noncomputable def tabB : SF := (sSeq (sIf (tst2 (cmpD .In) (eVar 8) (eVar 7)) (sSeq (sRet (eDat .none)) sNil) sNil) (sSeq (sSet 7 (eVar 8) (eItem (eVar 2) (eVar 6))) sNil))
noncomputable def kindB : SF := (sIf (tst2 (cmpD .In) (eItem (eVar 4) (eDat (.int 0))) (eTuple [(eDat (.str "switch_on_constant")), (eDat (.str "switch_on_structure"))])) (sSeq (sAssign 7 (eDisp (some []))) (sSeq (sFor (eItem (eVar 4) (eDat (.int 1))) (tPair 8 6) tabB) (sSeq (sMeth 5 appendD [(eTuple [(eItem (eVar 4) (eDat (.int 0))), (eVar 7), (eItem (eVar 2) (eItem (eVar 4) (eDat (.int 2))))])]) sNil))) (sSeq (sIf (tst2 (cmpD .Eq) (eItem (eVar 4) (eDat (.int 0))) (eDat (.str "switch_on_term"))) (sSeq (sMeth 5 appendD [(eTuple [(eItem (eVar 4) (eDat (.int 0))), (eItem (eVar 2) (eItem (eVar 4) (eDat (.int 1)))), (eItem (eVar 2) (eItem (eVar 4) (eDat (.int 2)))), (eItem (eVar 2) (eItem (eVar 4) (eDat (.int 3)))), (eItem (eVar 2) (eItem (eVar 4) (eDat (.int 4))))])]) sNil) (sSeq (sIf (tst2 (cmpD .In) (eItem (eVar 4) (eDat (.int 0))) (eTuple [(eDat (.str "try")), (eDat (.str "retry")), (eDat (.str "trust"))])) (sSeq (sMeth 5 appendD [(eOp2 (binD .Add) (eTuple [(eItem (eVar 4) (eDat (.int 0))), (eItem (eVar 2) (eItem (eVar 4) (eDat (.int 1))))]) (eOp1 (fromD 2) (eVar 4)))]) sNil) (sSeq (sIf (tst2 (cmpD .NotEq) (eItem (eVar 4) (eDat (.int 0))) (eDat (.str "label"))) (sSeq (sMeth 5 appendD [(eVar 4)]) sNil) sNil) sNil)) sNil)) sNil))
noncomputable def dueB2 : SF := (sSeq (sFor (eCall fn_law_asked [(eVar 4)]) (tName 6) labB) (sSeq kindB sNil))
theorem due_is : F_law_due = (sSeq (sAssign 2 (eDisp (dfold [(.int (-1), .int 2)] []))) (sSeq (sAssign 3 (eDat (.int 0))) (sSeq (sFor (eVar 0) (tName 4) dueB1) (sSeq (sAssign 5 (eList [])) (sSeq (sFor (eVar 0) (tName 4) dueB2) (sSeq (sRet (eVar 5)) sNil)))))) := rfl

noncomputable def due1 (base : Int) : List Row → List (Int × Int) → Int → Option (List (Int × Int) × Int)
  | [], w, n => some (w, n)
  | r :: rs, w, n => if r.isBad then none else match r.key with
    | some k => if (look k w).isSome then none else due1 base rs (w ++ [(k, base + n)]) n
    | none => due1 base rs w (n + 1)
theorem due1_bad (base : Int) : ∀ (rs : List Row) (w : List (Int × Int)) (n : Int), (∃ r ∈ rs, r.isBad = true) → due1 base rs w n = none := by
  intro x_
  induction x_ with
  | nil =>
    intro w n h
    obtain ⟨r, hr, _⟩ := h; cases hr
  | cons r rs ih =>
    intro w n h
    obtain ⟨x, hx, hb⟩ := h
    simp only [due1]
    split
    · rfl
    · rename_i hn
      rcases List.mem_cons.mp hx with rfl | hx
      · exact absurd hb hn
      · split
        · split
          · rfl
          · exact ih _ _ ⟨x, hx, hb⟩
        · exact ih _ _ ⟨x, hx, hb⟩
theorem due1_la (base : Int) : ∀ (rs : List Row) (w : List (Int × Int)) (n : Int), (∀ r ∈ rs, r.isBad = false) → due1 base rs w n = (la rs w (base + n)).map fun w' => (w', n + nreal rs) := by
  intro x_
  induction x_ with
  | nil =>
    intro w n h
    simp [due1, la, nreal]
  | cons r rs ih =>
    intro w n h
    have hb := h r List.mem_cons_self
    have ih := fun w n => ih w n fun x hx => h x (List.mem_cons_of_mem _ hx)
    simp only [due1, la, nreal, hb, Bool.false_eq_true, if_false]
    cases r with
    | bad x b => cases hb
    | lab k =>
      simp only [Row.key, Row.looksLab, if_true]
      split
      · rfl
      · exact ih _ _
    | _ =>
      simp only [Row.key, Row.looksLab, Bool.false_eq_true, if_false]
      rw [ih, ← Int.add_assoc n 1, Int.add_assoc base n 1]
theorem b1_ev {r : Row} (h : r.Ok) {base n : Int} {w : List (Int × Int)} (hw : w.length ≤ 1000) {R : PyData} {q : List Slot} (ts : List Int) :
    dueB1 ⟨.sh R :: .sh (.int base) :: .own (.dict (encW ((-1, 2) :: w))) :: .sh (.int n) :: .sh r.enc :: q, ts⟩ =
      if r.isBad then .ok (.ret .none false) ⟨.sh R :: .sh (.int base) :: .own (.dict (encW ((-1, 2) :: w))) :: .sh (.int n) :: .sh r.enc :: q, ts⟩ else match r.key with
        | some k => if (look k w).isSome then .ok (.ret .none false) ⟨.sh R :: .sh (.int base) :: .own (.dict (encW ((-1, 2) :: w))) :: .sh (.int n) :: .sh r.enc :: q, ts⟩
          else .ok .next ⟨.sh R :: .sh (.int base) :: .own (.dict (encW ((-1, 2) :: (w ++ [(k, base + n)])))) :: .sh (.int n) :: .sh r.enc :: q, ts⟩
        | none => .ok .next ⟨.sh R :: .sh (.int base) :: .own (.dict (encW ((-1, 2) :: w))) :: .sh (.int (n + 1)) :: .sh r.enc :: q, ts⟩ := by
  have hany := bad_any h
  have h8 := dp8_enc h
  have hb7 := dAll_bad
  have ht : tst2 (cmpD .In) (eVar 4) (eCall fn_law_bad []) ⟨.sh R :: .sh (.int base) :: .own (.dict (encW ((-1, 2) :: w))) :: .sh (.int n) :: .sh r.enc :: q, ts⟩ = .ok r.isBad ⟨.sh R :: .sh (.int base) :: .own (.dict (encW ((-1, 2) :: w))) :: .sh (.int n) :: .sh r.enc :: q, ts⟩ := by
    simp [law_bad_ev, cmp_inL, h8, hb7, hany]
  cases r with
  | bad x b => exact ifT ht (by kernel_rfl)
  | lab k =>
    refine ifF ht ?_
    have hk : 0 ≤ k := h.1
    have hf := look_front hk w
    have hg := dget_w k ((-1, 2) :: w)
    rw [hf] at hg
    have hko := keys_w k ((-1, 2) :: w)
    have hlen := len_w ((-1, 2) :: w)
    have hl9 : (encW ((-1, 2) :: w)).length ≤ 9999 := by rw [hlen]; simp only [List.length_cons]; omega
    simp only [Row.isBad, Row.enc, Row.key]
    cases hlk : look k w with
    | some a =>
      rw [hlk] at hg
      simp [cmp_eq, cmp_inD hko, hg, hlk]
    | none =>
      rw [hlk] at hg
      have hs := dset_w k (base + n) ((-1, 2) :: w) (by rw [hf, hlk])
      rw [List.cons_append] at hs
      simp [cmp_eq, cmp_inD hko, hg, hlk, hko, hl9, hs]
  | _ => exact ifF ht (by kernel_rfl)
theorem b1_loop {base : Int} : ∀ (rs : List Row), (∀ r ∈ rs, r.Ok) → ∀ (w : List (Int × Int)) (n : Int), w.length + rs.length ≤ 1000 → ∀ {R : PyData} {s4 : Slot} {q : List Slot} {ts : List Int}, s4.canPut = true →
    (due1 base rs w n = none ∧ ∃ st', sLoop (tName 4) dueB1 (rs.map Row.enc) ⟨.sh R :: .sh (.int base) :: .own (.dict (encW ((-1, 2) :: w))) :: .sh (.int n) :: s4 :: q, ts⟩ = .ok (.ret .none false) st' ∧ st'.ts = ts) ∨
    (∃ w' n' s4', due1 base rs w n = some (w', n') ∧ s4'.canPut = true ∧ sLoop (tName 4) dueB1 (rs.map Row.enc) ⟨.sh R :: .sh (.int base) :: .own (.dict (encW ((-1, 2) :: w))) :: .sh (.int n) :: s4 :: q, ts⟩ = .ok .next ⟨.sh R :: .sh (.int base) :: .own (.dict (encW ((-1, 2) :: w'))) :: .sh (.int n') :: s4' :: q, ts⟩) := by
  intro x_
  induction x_ with
  | nil =>
    intro hr w n hl R s4 q ts h4
    exact .inr ⟨w, n, s4, rfl, h4, rfl⟩
  | cons r rs ih =>
    intro hr w n hl R s4 q ts h4
    simp only [List.length_cons] at hl
    have e0 := b1_ev (hr r List.mem_cons_self) (base := base) (n := n) (w := w) (by omega) (R := R) (q := q) ts
    have ih := fun w n hl => ih (fun x hx => hr x (List.mem_cons_of_mem _ hx)) w n hl (R := R) (s4 := .sh r.enc) (q := q) (ts := ts) rfl
    have step : sLoop (tName 4) dueB1 ((r :: rs).map Row.enc) ⟨.sh R :: .sh (.int base) :: .own (.dict (encW ((-1, 2) :: w))) :: .sh (.int n) :: s4 :: q, ts⟩ = (dueB1 ⟨.sh R :: .sh (.int base) :: .own (.dict (encW ((-1, 2) :: w))) :: .sh (.int n) :: .sh r.enc :: q, ts⟩).bind (loopK2 (tName 4) dueB1 (rs.map Row.enc)) := loop_name rfl h4 rfl
    rw [step, e0]
    simp only [due1]
    split
    · exact .inl ⟨rfl, _, rfl, rfl⟩
    · split
      · split
        · exact .inl ⟨rfl, _, rfl, rfl⟩
        · exact ih _ _ (by simp only [List.length_append, List.length_cons, List.length_nil]; omega)
      · exact ih _ _ (by omega)
end Mine
namespace Mine
open PySem PySem.W PySem.Calls PyProof.Rows

theorem rtab_none {w : List (Int × Int)} {e : Int} : ∀ (ps : List (PyData × Int)) (t : List (PyData × PyData)), (∃ p ∈ ps, res w e p.2 = none) → rtab w e ps t = none := by
  intro x_
  induction x_ with
  | nil =>
    intro t h
    obtain ⟨p, hp, _⟩ := h; cases hp
  | cons h0_ r ih =>
    obtain ⟨k, l⟩ := h0_
    intro t h
    obtain ⟨p, hp, hn⟩ := h
    simp only [rtab]
    split
    · rfl
    · rcases List.mem_cons.mp hp with rfl | hp
      · simp only at hn
        rw [hn]
      · split
        · rfl
        · exact ih _ ⟨p, hp, hn⟩
theorem res1_none {w : List (Int × Int)} {e : Int} {r : Row} (h : ∃ l ∈ asked r, res w e l = none) : res1 w e r = none := by
  obtain ⟨l, hl, hn⟩ := h
  cases r with
  | try_ a n => simp only [asked, List.mem_singleton] at hl; subst hl; simp [res1, hn]
  | retry a => simp only [asked, List.mem_singleton] at hl; subst hl; simp [res1, hn]
  | trust a => simp only [asked, List.mem_singleton] at hl; subst hl; simp [res1, hn]
  | term a b c d =>
    simp only [asked, List.mem_cons, List.not_mem_nil, or_false] at hl
    rcases hl with rfl | rfl | rfl | rfl <;> simp [res1, hn]
  | con ps d =>
    simp only [asked, List.mem_append, List.mem_map, List.mem_singleton] at hl
    rcases hl with ⟨p, hp, rfl⟩ | rfl
    · simp only [res1]
      rw [rtab_none _ _ ⟨cpair p, List.mem_map_of_mem hp, hn⟩]
      rfl
    · simp [res1, hn]
  | str ps d =>
    simp only [asked, List.mem_append, List.mem_map, List.mem_singleton] at hl
    rcases hl with ⟨p, hp, rfl⟩ | rfl
    · simp only [res1]
      rw [rtab_none _ _ ⟨spair p, List.mem_map_of_mem hp, hn⟩]
      rfl
    · simp [res1, hn]
  | _ => cases hl
theorem res_look {w : List (Int × Int)} {e l a : Int} (h : res w e l = some a) : look l ((-1, 2) :: w) = some a := by
  simp only [res] at h
  simp only [look]
  split at h
  · rename_i hl
    cases h
    rw [if_pos hl.symm]
  · rename_i hl
    rw [if_neg (fun q => hl q.symm)]
    split at h
    · cases h
    · split at h
      · cases h
      · rename_i hk _
        rw [hk]
        exact h
theorem res_item {w : List (Int × Int)} {e l a : Int} (h : res w e l = some a) : itemD (.dict (encW ((-1, 2) :: w))) (.int l) = some (.int a) := by
  rw [item_dict (keys_w _ _), dget_w, res_look h]
  rfl
noncomputable def dS (w : List (Int × Int)) (a0 a1 a3 a4 a5 s6 s7 s8 : Slot) (ts : List Int) : St := ⟨[a0, a1, .own (.dict (encW ((-1, 2) :: w))), a3, a4, a5, s6, s7, s8], ts⟩
theorem lab_ev {w : List (Int × Int)} {base n l : Int} (hl : LOk l) (hb : Below w (base + n)) {R : PyData} {a4 a5 s7 s8 : Slot} {ts : List Int} :
    labB (dS w (.sh R) (.sh (.int base)) (.sh (.int n)) a4 a5 (.sh (.int l)) s7 s8 ts) = if (res w (base + n) l).isSome then .ok .next (dS w (.sh R) (.sh (.int base)) (.sh (.int n)) a4 a5 (.sh (.int l)) s7 s8 ts) else .ok (.ret .none false) (dS w (.sh R) (.sh (.int base)) (.sh (.int n)) a4 a5 (.sh (.int l)) s7 s8 ts) := by
  have hko := keys_w l ((-1, 2) :: w)
  have hg := dget_w l ((-1, 2) :: w)
  by_cases h1 : l = -1
  · subst h1
    simp [dS, labB, cmp_ninD hko, hg, look, res]
  · have h0 : 0 ≤ l := by have := hl.1; omega
    have hf := look_front h0 w
    have hit := item_dict hko
    rw [hg] at hit
    simp only [res, if_neg h1]
    rw [hf] at hg hit
    cases hk : look l w with
    | none =>
      rw [hk] at hg
      simp [dS, labB, cmp_ninD hko, hg]
    | some a =>
      have hle := hb l a hk
      rw [hk] at hg hit
      by_cases he : a = base + n
      · have : base + n ≤ a := by omega
        simp only [Option.map_some] at hg hit
        simp [dS, labB, cmp_eq, cmp_ninD hko, hg, h0, hit, he]
      · have : ¬ base + n ≤ a := by omega
        simp only [Option.map_some] at hg hit
        simp [dS, labB, cmp_eq, cmp_ninD hko, hg, h0, hit, he, this]
inductive LOut (L : Out SRes) (as : List Int) (w : List (Int × Int)) (base n : Int) (R : PyData) (a4 a5 s7 s8 : Slot) (ts : List Int) : Prop
  | fail (hx : ∃ l ∈ as, res w (base + n) l = none) (st' : St) (ev : L = .ok (.ret .none false) st') (et : st'.ts = ts)
  | ok (hx : ∀ l ∈ as, (res w (base + n) l).isSome) (s6' : Slot) (h6 : s6'.canPut = true) (ev : L = .ok .next (dS w (.sh R) (.sh (.int base)) (.sh (.int n)) a4 a5 s6' s7 s8 ts))
theorem lab_loop {w : List (Int × Int)} {base n : Int} (hb : Below w (base + n)) : ∀ (as : List Int), (∀ l ∈ as, LOk l) → ∀ {R : PyData} {a4 a5 s6 s7 s8 : Slot} {ts : List Int}, s6.canPut = true →
    LOut (sLoop (tName 6) labB (as.map .int) (dS w (.sh R) (.sh (.int base)) (.sh (.int n)) a4 a5 s6 s7 s8 ts)) as w base n R a4 a5 s7 s8 ts := by
  intro x_
  induction x_ with
  | nil =>
    intro hl R a4 a5 s6 s7 s8 ts h6
    exact .ok (fun _ h => nomatch h) s6 h6 rfl
  | cons l as ih =>
    intro hl R a4 a5 s6 s7 s8 ts h6
    have e0 := lab_ev (hl l List.mem_cons_self) hb (R := R) (a4 := a4) (a5 := a5) (s7 := s7) (s8 := s8) (ts := ts)
    have step : sLoop (tName 6) labB ((l :: as).map .int) (dS w (.sh R) (.sh (.int base)) (.sh (.int n)) a4 a5 s6 s7 s8 ts) = (labB (dS w (.sh R) (.sh (.int base)) (.sh (.int n)) a4 a5 (.sh (.int l)) s7 s8 ts)).bind (loopK2 (tName 6) labB (as.map .int)) := loop_name rfl h6 rfl
    rw [step, e0]
    cases hr : res w (base + n) l with
    | none => exact .fail ⟨l, List.mem_cons_self, hr⟩ _ rfl rfl
    | some a =>
      rcases ih (fun x hx => hl x (List.mem_cons_of_mem _ hx)) (R := R) (a4 := a4) (a5 := a5) (s6 := .sh (.int l)) (s7 := s7) (s8 := s8) (ts := ts) rfl with ⟨⟨x, hx, hn⟩, st', e1, e2⟩ | ⟨h1, s6', h2, e1⟩
      · exact .fail ⟨x, List.mem_cons_of_mem _ hx, hn⟩ st' e1 e2
      · refine .ok ?_ s6' h2 e1
        intro x hx
        rcases List.mem_cons.mp hx with rfl | hx
        · rw [hr]; rfl
        · exact h1 x hx
noncomputable def kok (b : Bool) (x : PyData) : Bool := if b then isTupK x else isIntK x
theorem keys_kok {b : Bool} {k : PyData} {t : List (PyData × PyData)} (h : kok b k = true) (ht : ∀ p ∈ t, kok b p.1 = true) : keysOk k t = true := by
  cases b
  · have : t.all (fun p => isIntK p.1) = true := List.all_eq_true.mpr ht
    unfold keysOk
    rw [this, show isIntK k = true from h]
    rfl
  · have : t.all (fun p => isTupK p.1) = true := List.all_eq_true.mpr ht
    unfold keysOk
    rw [this, show isTupK k = true from h]
    cases isIntK k && _ <;> rfl
theorem dset_mem {k x : PyData} : ∀ {t : List (PyData × PyData)}, ∀ p ∈ dset k x t, p.1 = k ∨ ∃ q ∈ t, q.1 = p.1 := by
  intro x_
  induction x_ with
  | nil =>
    intro p hp
    simp only [dset, List.mem_singleton] at hp; subst hp; exact .inl rfl
  | cons h0_ r ih =>
    obtain ⟨a, u⟩ := h0_
    intro p hp
    simp only [dset] at hp
    split at hp
    · rcases List.mem_cons.mp hp with rfl | hp
      · exact .inr ⟨_, List.mem_cons_self, rfl⟩
      · exact .inr ⟨p, List.mem_cons_of_mem _ hp, rfl⟩
    · rcases List.mem_cons.mp hp with rfl | hp
      · exact .inr ⟨_, List.mem_cons_self, rfl⟩
      · rcases ih p hp with h | ⟨q, hq, e⟩
        · exact .inl h
        · exact .inr ⟨q, List.mem_cons_of_mem _ hq, e⟩
theorem dset_kok {b : Bool} {k x : PyData} {t : List (PyData × PyData)} (h : kok b k = true) (ht : ∀ p ∈ t, kok b p.1 = true) : ∀ p ∈ dset k x t, kok b p.1 = true := by
  intro p hp
  rcases dset_mem p hp with e | ⟨q, hq, e⟩
  · rw [e]; exact h
  · rw [← e]; exact ht q hq
theorem dset_len (k x : PyData) : ∀ t : List (PyData × PyData), (dset k x t).length ≤ t.length + 1 := by
  intro x_
  induction x_ with
  | nil =>
    exact Nat.le_refl _
  | cons h0_ r ih =>
    obtain ⟨a, u⟩ := h0_
    have := ih
    simp only [dset]
    split <;> simp only [List.length_cons] <;> omega
inductive TOut (L : Out SRes) (o : Option (List (PyData × PyData))) (w : List (Int × Int)) (a0 a1 a3 a4 a5 : Slot) (ts : List Int) : Prop
  | fail (hn : o = none) (st' : St) (ev : L = .ok (.ret .none false) st') (et : st'.ts = ts)
  | ok (t' : List (PyData × PyData)) (s6' s8' : Slot) (hn : o = some t') (h6 : s6'.canPut = true) (h8 : s8'.canPut = true) (ev : L = .ok .next (dS w a0 a1 a3 a4 a5 s6' (.own (.dict t')) s8' ts))
theorem tab_loop {w : List (Int × Int)} {e : Int} {b : Bool} : ∀ (ps : List (PyData × Int)) (t : List (PyData × PyData)), (∀ p ∈ ps, kok b p.1 = true ∧ (res w e p.2).isSome = true) → (∀ p ∈ t, kok b p.1 = true) → t.length + ps.length ≤ 1000 →
    ∀ {a0 a1 a3 a4 a5 s6 s8 : Slot} {ts : List Int}, s6.canPut = true → s8.canPut = true →
    TOut (sLoop (tPair 8 6) tabB (ps.map pe) (dS w a0 a1 a3 a4 a5 s6 (.own (.dict t)) s8 ts)) (rtab w e ps t) w a0 a1 a3 a4 a5 ts := by
  intro x_
  induction x_ with
  | nil =>
    intro t hp ht hl a0 a1 a3 a4 a5 s6 s8 ts h6 h8
    exact .ok t s6 s8 rfl h6 h8 rfl
  | cons h0_ ps ih =>
    obtain ⟨k, l⟩ := h0_
    intro t hp ht hl a0 a1 a3 a4 a5 s6 s8 ts h6 h8
    simp only [List.length_cons] at hl
    obtain ⟨hk, hs⟩ := hp (k, l) List.mem_cons_self
    simp only at hk hs
    obtain ⟨a, ha⟩ := Option.isSome_iff_exists.mp hs
    have hko := keys_kok hk ht
    have hit := res_item ha
    have hl9 : t.length ≤ 9999 := by omega
    have step : sLoop (tPair 8 6) tabB (((k, l) :: ps).map pe) (dS w a0 a1 a3 a4 a5 s6 (.own (.dict t)) s8 ts) = (tabB (dS w a0 a1 a3 a4 a5 (.sh (.int l)) (.own (.dict t)) (.sh k) ts)).bind (loopK2 (tPair 8 6) tabB (ps.map pe)) := loop_pair rfl h8 rfl h6 rfl
    rw [step]
    simp only [rtab]
    by_cases hg : (dget k t).isSome = true
    · rw [if_pos hg]
      have e0 : tabB (dS w a0 a1 a3 a4 a5 (.sh (.int l)) (.own (.dict t)) (.sh k) ts) = .ok (.ret .none false) (dS w a0 a1 a3 a4 a5 (.sh (.int l)) (.own (.dict t)) (.sh k) ts) := by
        simp [dS, tabB, cmp_inD hko, hg]
      rw [e0]
      exact .fail rfl _ rfl rfl
    · rw [if_neg hg, ha]
      have hg' : (dget k t).isSome = false := by simpa using hg
      have e0 : tabB (dS w a0 a1 a3 a4 a5 (.sh (.int l)) (.own (.dict t)) (.sh k) ts) = .ok .next (dS w a0 a1 a3 a4 a5 (.sh (.int l)) (.own (.dict (dset k (.int a) t))) (.sh k) ts) := by
        simp only [dS, tabB]
        simp only [zA, zB, zC, zD, zE, zF, zG, zH, zI, zJ, zK, zL, zM, zN, zO, zP, zQ, zR, zS, zT, zU, zV, zW, zX, zY, zZ, yA, yB, yC, yD, yE, yF, yG, yH, yI, yJ, yK, yL, yM, yN, yO, yP, yQ, yR, yS, yT, yU, yV, yW, yX, yY, yZ, xA, xB, xC, xD, xE, xF, xG, xH, xI, xJ, xK, xL, xM, xN, xO, xP, xQ, xR, xS, xT, xU, xV, xW, xX, xY, xZ, wA, wB, wC, wD, wE, wF, wG, wH, wI, wJ, wK, wL, wM, wN, wO, wP, wQ, wR, wS, wT, wU, wV, wW, wX, wY, wZ, vA, vB, vC, vD, vE, vF, vG, vH, vI, vJ, vK, vL, vM, vN, vO, vP, vQ, vR, vS, vT, vU, vV, vW, vX, vY, vZ, uA, uB, uC, uD, uE, uF, uG, uH, uI, uJ, uK, uL, uM, uN, uO, uP, uQ, uR, uS, uT, uU, uV, uW, uX, uY, uZ, jA, jB, jC, jD, jE, jF, jG, jH, jI, jJ, jK, jL, jM, jN, jO, jP, jQ, jR, jS, jT, jU, jV, jW, cmp_inD hko, hg', List.getElem?_cons_succ, List.getElem?_cons_zero, hit, Option.map_some, List.set_cons_succ, List.set_cons_zero, hko, hl9, decide_true, Bool.and_self, if_true]
      rw [e0]
      have := dset_len k (.int a) t
      exact ih _ (fun p hp' => hp p (List.mem_cons_of_mem _ hp')) (dset_kok hk ht) (by omega) rfl rfl
inductive KOut (w : List (Int × Int)) (e : Int) (r : Row) (out : List PyData) (a0 a1 a3 s6 s7 s8 : Slot) (ts : List Int) : Prop
  | lab (hl : r.isLab = true) (s7' : Slot) (h7 : s7'.canPut = true) (ev : kindB (dS w a0 a1 a3 (.sh r.enc) (.own (.list out)) s6 s7 s8 ts) = .ok .next (dS w a0 a1 a3 (.sh r.enc) (.own (.list out)) s6 s7' s8 ts))
  | fail (hl : r.isLab = false) (hn : res1 w e r = none) (st' : St) (ev : kindB (dS w a0 a1 a3 (.sh r.enc) (.own (.list out)) s6 s7 s8 ts) = .ok (.ret .none false) st') (et : st'.ts = ts)
  | ok (hl : r.isLab = false) (x : PyData) (s6' s7' s8' : Slot) (hn : res1 w e r = some x) (h6 : s6'.canPut = true) (h7 : s7'.canPut = true) (h8 : s8'.canPut = true) (ev : kindB (dS w a0 a1 a3 (.sh r.enc) (.own (.list out)) s6 s7 s8 ts) = .ok .next (dS w a0 a1 a3 (.sh r.enc) (.own (.list (out ++ [x]))) s6' s7' s8' ts))
theorem kind_ev {w : List (Int × Int)} {e n : Int} {r : Row} (h : r.Ok) (hb : r.isBad = false) (ha : ∀ l ∈ asked r, (res w e l).isSome = true) {out : List PyData} (ho : out.length ≤ 1000) {a0 a1 a3 s6 s7 s8 : Slot} {ts : List Int} (h6 : s6.canPut = true) (h7 : s7.canPut = true) (h8 : s8.canPut = true) :
    KOut w e r out a0 a1 a3 s6 s7 s8 ts := by
  have ho9 : ∀ {x}, appendD out [x] = some (out ++ [x]) := app_ok (by omega)
  have it : ∀ {l}, l ∈ asked r → ∃ a, res w e l = some a ∧ itemD (.dict (encW ((-1, 2) :: w))) (.int l) = some (.int a) := fun hl => by
    obtain ⟨a, e1⟩ := Option.isSome_iff_exists.mp (ha _ hl)
    exact ⟨a, e1, res_item e1⟩
  cases r with
  | bad x b => cases hb
  | lab k => exact .lab rfl s7 h7 (elseF (by kernel_rfl) (seq1 (elseF (by kernel_rfl) (seq1 (elseF (by kernel_rfl) (seq1 (elseF (by kernel_rfl) rfl)))))))
  | try_ l m =>
    obtain ⟨a, e1, hit⟩ := it (.head _)
    exact .ok rfl (.tuple [.str "try", .int a, .int m]) s6 s7 s8 (by rw [res1, e1]; rfl) h6 h7 h8 (elseF (by kernel_rfl) (seq1 (elseF (by kernel_rfl) (seq1 (thenT (by kernel_rfl) (seq1 (meth1 rfl (by simp [dS, Row.enc, hit]; exact ⟨rfl, rfl⟩) rfl rfl ho9 rfl)))))))
  | retry l =>
    obtain ⟨a, e1, hit⟩ := it (.head _)
    exact .ok rfl (.tuple [.str "retry", .int a]) s6 s7 s8 (by rw [res1, e1]; rfl) h6 h7 h8 (elseF (by kernel_rfl) (seq1 (elseF (by kernel_rfl) (seq1 (thenT (by kernel_rfl) (seq1 (meth1 rfl (by simp [dS, Row.enc, hit]; exact ⟨rfl, rfl⟩) rfl rfl ho9 rfl)))))))
  | trust l =>
    obtain ⟨a, e1, hit⟩ := it (.head _)
    exact .ok rfl (.tuple [.str "trust", .int a]) s6 s7 s8 (by rw [res1, e1]; rfl) h6 h7 h8 (elseF (by kernel_rfl) (seq1 (elseF (by kernel_rfl) (seq1 (thenT (by kernel_rfl) (seq1 (meth1 rfl (by simp [dS, Row.enc, hit]; exact ⟨rfl, rfl⟩) rfl rfl ho9 rfl)))))))
  | term a b c d =>
    refine hide fun b_ hb_ => ?_
    obtain ⟨a', e1, i1⟩ := it (.head _)
    obtain ⟨b', e2, i2⟩ := it (.tail _ (.head _))
    obtain ⟨c', e3, i3⟩ := it (.tail _ (.tail _ (.head _)))
    obtain ⟨d', e4, i4⟩ := it (.tail _ (.tail _ (.tail _ (.head _))))
    refine hb_ ?_
    exact .ok rfl (.tuple [.str "switch_on_term", .int a', .int b', .int c', .int d']) s6 s7 s8 (by rw [res1, e1, e2, e3, e4]; rfl) h6 h7 h8 (elseF (by kernel_rfl) (seq1 (thenT (by kernel_rfl) (seq1 (meth1 rfl (by simp [dS, Row.enc, i1, i2, i3, i4]; exact ⟨rfl, rfl⟩) rfl rfl ho9 rfl)))))
  | con ps l =>
    obtain ⟨a, e1, hit⟩ := it (List.mem_append_right _ (.head _))
    have hmap : (ps.map cpair).map pe = ps.map ckey := by rw [List.map_map]; rfl
    have e0 : sAssign 7 (eDisp (some [])) (dS w a0 a1 a3 (.sh (Row.con ps l).enc) (.own (.list out)) s6 s7 s8 ts) = .ok .next (dS w a0 a1 a3 (.sh (Row.con ps l).enc) (.own (.list out)) s6 (.own (.dict [])) s8 ts) := by simp [dS, eDisp, h7]
    rcases tab_loop (w := w) (e := e) (b := true) (ps.map cpair) [] (by
      intro p hp
      refine hide fun b_ hb_ => ?_
      obtain ⟨q, hq, rfl⟩ := List.mem_map.mp hp
      refine hb_ ?_
      exact ⟨rfl, ha q.2 (List.mem_append_left _ (List.mem_map_of_mem hq))⟩) (fun _ h => nomatch h) (by have := h.2.1; simp only [List.length_nil, List.length_map]; omega) (a0 := a0) (a1 := a1) (a3 := a3) (a4 := .sh (Row.con ps l).enc) (a5 := .own (.list out)) (s6 := s6) (s8 := s8) (ts := ts) h6 h8 with ⟨hn, st', e2, e3⟩ | ⟨t', s6', s8', hn, h6', h8', e2⟩
    · rw [hmap] at e2
      exact .fail rfl (by rw [res1, hn]; rfl) st' (thenT (by kernel_rfl) (seqN e0 (seqR e2))) e3
    · rw [hmap] at e2
      exact .ok rfl (.tuple [.str "switch_on_constant", .dict t', .int a]) s6' (.sh (.dict t')) s8' (by rw [res1, hn, e1]; rfl) h6' rfl h8' (thenT (by kernel_rfl) (seqN e0 (seqN e2 (seq1 (meth1 rfl (by simp [dS, Row.enc, hit]; exact ⟨rfl, rfl⟩) rfl rfl ho9 rfl)))))
  | str ps l =>
    obtain ⟨a, e1, hit⟩ := it (List.mem_append_right _ (.head _))
    have hmap : (ps.map spair).map pe = ps.map skey := by rw [List.map_map]; rfl
    have e0 : sAssign 7 (eDisp (some [])) (dS w a0 a1 a3 (.sh (Row.str ps l).enc) (.own (.list out)) s6 s7 s8 ts) = .ok .next (dS w a0 a1 a3 (.sh (Row.str ps l).enc) (.own (.list out)) s6 (.own (.dict [])) s8 ts) := by simp [dS, eDisp, h7]
    rcases tab_loop (w := w) (e := e) (b := false) (ps.map spair) [] (by
      intro p hp
      refine hide fun b_ hb_ => ?_
      obtain ⟨q, hq, rfl⟩ := List.mem_map.mp hp
      refine hb_ ?_
      exact ⟨rfl, ha q.2 (List.mem_append_left _ (List.mem_map_of_mem hq))⟩) (fun _ h => nomatch h) (by have := h.2.1; simp only [List.length_nil, List.length_map]; omega) (a0 := a0) (a1 := a1) (a3 := a3) (a4 := .sh (Row.str ps l).enc) (a5 := .own (.list out)) (s6 := s6) (s8 := s8) (ts := ts) h6 h8 with ⟨hn, st', e2, e3⟩ | ⟨t', s6', s8', hn, h6', h8', e2⟩
    · rw [hmap] at e2
      exact .fail rfl (by rw [res1, hn]; rfl) st' (thenT (by kernel_rfl) (seqN e0 (seqR e2))) e3
    · rw [hmap] at e2
      exact .ok rfl (.tuple [.str "switch_on_structure", .dict t', .int a]) s6' (.sh (.dict t')) s8' (by rw [res1, hn, e1]; rfl) h6' rfl h8' (thenT (by kernel_rfl) (seqN e0 (seqN e2 (seq1 (meth1 rfl (by simp [dS, Row.enc, hit]; exact ⟨rfl, rfl⟩) rfl rfl ho9 rfl)))))
  | call a b => refine .ok rfl _ s6 s7 s8 rfl h6 h7 h8 ?_; exact elseF (by kernel_rfl) (seq1 (elseF (by kernel_rfl) (seq1 (elseF (by kernel_rfl) (seq1 (thenT (by kernel_rfl) (seq1 (meth1 rfl (by exact rfl) rfl rfl ho9 rfl))))))))
  | getc v m => refine .ok rfl _ s6 s7 s8 rfl h6 h7 h8 ?_; exact elseF (by kernel_rfl) (seq1 (elseF (by kernel_rfl) (seq1 (elseF (by kernel_rfl) (seq1 (thenT (by kernel_rfl) (seq1 (meth1 rfl (by exact rfl) rfl rfl ho9 rfl))))))))
  | proc => refine .ok rfl _ s6 s7 s8 rfl h6 h7 h8 ?_; exact elseF (by kernel_rfl) (seq1 (elseF (by kernel_rfl) (seq1 (elseF (by kernel_rfl) (seq1 (thenT (by kernel_rfl) (seq1 (meth1 rfl (by exact rfl) rfl rfl ho9 rfl))))))))
theorem looks_lab {r : Row} (hb : r.isBad = false) : r.looksLab = r.isLab := by cases r <;> first | rfl | cases hb
inductive BOut (L : Out SRes) (o : Option (List PyData)) (w : List (Int × Int)) (base n : Int) (R : PyData) (out : List PyData) (ts : List Int) : Prop
  | fail (hn : o = none) (st' : St) (ev : L = .ok (.ret .none false) st') (et : st'.ts = ts)
  | ok (l : List PyData) (s4' s6' s7' s8' : Slot) (hn : o = some l) (ev : L = .ok .next (dS w (.sh R) (.sh (.int base)) (.sh (.int n)) s4' (.own (.list (out ++ l))) s6' s7' s8' ts))
theorem b2_loop {w : List (Int × Int)} {base n : Int} (hbl : Below w (base + n)) : ∀ (rs : List Row), (∀ r ∈ rs, r.Ok ∧ r.isBad = false) → ∀ (out : List PyData), out.length + rs.length ≤ 1000 → ∀ {R : PyData} {s4 s6 s7 s8 : Slot} {ts : List Int}, s4.canPut = true → s6.canPut = true → s7.canPut = true → s8.canPut = true →
    BOut (sLoop (tName 4) dueB2 (rs.map Row.enc) (dS w (.sh R) (.sh (.int base)) (.sh (.int n)) s4 (.own (.list out)) s6 s7 s8 ts)) (resAll w (base + n) rs) w base n R out ts := by
  intro x_
  induction x_ with
  | nil =>
    intro hr out hl R s4 s6 s7 s8 ts h4 h6 h7 h8
    exact .ok [] s4 s6 s7 s8 rfl (by rw [List.append_nil]; rfl)
  | cons r rs ih =>
    intro hr out hl R s4 s6 s7 s8 ts h4 h6 h7 h8
    simp only [List.length_cons] at hl
    obtain ⟨ho, hb⟩ := hr r List.mem_cons_self
    have step : sLoop (tName 4) dueB2 ((r :: rs).map Row.enc) (dS w (.sh R) (.sh (.int base)) (.sh (.int n)) s4 (.own (.list out)) s6 s7 s8 ts) = (dueB2 (dS w (.sh R) (.sh (.int base)) (.sh (.int n)) (.sh r.enc) (.own (.list out)) s6 s7 s8 ts)).bind (loopK2 (tName 4) dueB2 (rs.map Row.enc)) := loop_name rfl h4 rfl
    rw [step]
    have hd : dueB2 (dS w (.sh R) (.sh (.int base)) (.sh (.int n)) (.sh r.enc) (.own (.list out)) s6 s7 s8 ts) = (sLoop (tName 6) labB ((asked r).map .int) (dS w (.sh R) (.sh (.int base)) (.sh (.int n)) (.sh r.enc) (.own (.list out)) s6 s7 s8 ts)).bind (kSeq (sSeq kindB sNil)) := by
      simp [dS, dueB2, asked_ev ho hb]
    rw [hd]
    simp only [resAll, looks_lab hb]
    rcases lab_loop hbl (asked r) (asked_lok ho) (R := R) (a4 := .sh r.enc) (a5 := .own (.list out)) (s6 := s6) (s7 := s7) (s8 := s8) (ts := ts) h6 with ⟨hx, st', e1, e2⟩ | ⟨hx, s6', h6', e1⟩
    · rw [e1]
      refine .fail ?_ st' rfl e2
      have hl0 : r.isLab = false := by
        cases r with
        | lab k => obtain ⟨l, hl, _⟩ := hx; cases hl
        | _ => rfl
      rw [hl0, if_neg (by decide), res1_none hx]
      rfl
    · rw [e1]
      simp only [zA, zB, zC, zD, zE, zF, zG, zH, zI, zJ, zK, zL, zM, zN, zO, zP, zQ, zR, zS, zT, zU, zV, zW, zX]
      rcases kind_ev (n := n) ho hb hx (out := out) (by omega) (a0 := .sh R) (a1 := .sh (.int base)) (a3 := .sh (.int n)) (s6 := s6') (s7 := s7) (s8 := s8) (ts := ts) h6' h7 h8 with ⟨hl0, s7', h7', e2⟩ | ⟨hl0, hn, st', e2, e3⟩ | ⟨hl0, x, s6'', s7', s8', hn, h6'', h7', h8', e2⟩
      · rw [e2, hl0, if_pos rfl]
        simp only [zA, zB, zC, zD, zE, zF, zG, zH, zI, zJ, zK, zL, zM, zN, zO, zP, zQ, zR, zS, zT, zU, zV, zW, zX, uK, uL, uM, uN, uO, uP, uQ, uR, uS, uT, uU, uV, uW, uX, uY, uZ, jA, jB, jC, jD, jE, jF, jG, jH, jI, jJ, jK, jL, jM, jN, jO, jP, jQ, jR, jS, jT, jU, jV, jW]
        exact ih (fun x hx => hr x (List.mem_cons_of_mem _ hx)) out (by omega) rfl h6' h7' h8
      · rw [e2, hl0, if_neg (by decide), hn]
        exact .fail rfl st' rfl e3
      · rw [e2, hl0, if_neg (by decide), hn]
        simp only [zA, zB, zC, zD, zE, zF, zG, zH, zI, zJ, zK, zL, zM, zN, zO, zP, zQ, zR, zS, zT, zU, zV, zW, zX, uK, uL, uM, uN, uO, uP, uQ, uR, uS, uT, uU, uV, uW, uX, uY, uZ, jA, jB, jC, jD, jE, jF, jG, jH, jI, jJ, jK, jL, jM, jN, jO, jP, jQ, jR, jS, jT, jU, jV, jW]
        rcases ih (fun x hx => hr x (List.mem_cons_of_mem _ hx)) (out ++ [x]) (by simp only [List.length_append, List.length_cons, List.length_nil]; omega) (R := R) (s4 := .sh r.enc) (s6 := s6'') (s7 := s7') (s8 := s8') (ts := ts) rfl h6'' h7' h8' with ⟨hn2, st', e3, e4⟩ | ⟨l, t4, t6, t7, t8, hn2, e3⟩
        · rw [e3, hn2]
          exact .fail rfl st' rfl e4
        · rw [e3, hn2]
          exact .ok (x :: l) t4 t6 t7 t8 rfl (by rw [List.append_assoc]; rfl)
theorem due_spec {rs : List Row} (hr : ∀ r ∈ rs, r.Ok) (hl : rs.length ≤ 900) (base : Int) (ts : List Int) :
    ∃ f, fn_law_due [.sh (.list (rs.map Row.enc)), .sh (.int base)] ts = match asm rs base with | none => .ok .none f ts | some l => .ok (.list l) f ts := by
  have hd : dfold [(.int (-1), .int 2)] [] = some (encW ((-1, 2) :: [])) := by rfl
  rcases b1_loop (base := base) rs hr [] 0 (by simp only [List.length_nil]; omega) (R := .list (rs.map Row.enc)) (s4 := .unset) (q := List.replicate 4 .unset) (ts := ts) rfl with ⟨hn, st', e1, e2⟩ | ⟨w, n, s4, hn, h4, e1⟩
  · refine ⟨false, ?_⟩
    have ha : asm rs base = none := by
      by_cases hb : ∃ r ∈ rs, r.isBad = true
      · exact asm_bad hb
      · have hb' : ∀ r ∈ rs, r.isBad = false := fun r hr => by
          cases h : r.isBad with
          | false => rfl
          | true => exact absurd ⟨r, hr, h⟩ hb
        rw [due1_la base rs [] 0 hb', Option.map_eq_none_iff] at hn
        rw [Int.add_zero] at hn
        unfold asm
        rw [hn]
        rfl
    rw [ha]
    simp only [List.replicate] at e1
    simp only [fn_law_due, due_is]
    simp [eDisp, hd, e1, e2]
  · have hb' : ∀ r ∈ rs, r.isBad = false := fun r hr => by
      cases h : r.isBad with
      | false => rfl
      | true => rw [due1_bad base rs [] 0 ⟨r, hr, h⟩] at hn; cases hn
    rw [due1_la base rs [] 0 hb', Int.add_zero] at hn
    refine hide fun b_ hb_ => ?_
    obtain ⟨w', hla, hp⟩ := Option.map_eq_some_iff.mp hn
    simp only [Prod.mk.injEq, Int.zero_add] at hp
    obtain ⟨rfl, rfl⟩ := hp
    refine hb_ ?_
    have hbl := la_below rs [] _ base hla (by intro l a h; cases h)
    have ha : asm rs base = resAll w' (base + nreal rs) rs := by unfold asm; rw [hla]; rfl
    rw [ha]
    simp only [List.replicate] at e1
    rcases b2_loop hbl rs (fun r h => ⟨hr r h, hb' r h⟩) [] (by simp only [List.length_nil]; omega) (R := .list (rs.map Row.enc)) (s4 := s4) (s6 := .unset) (s7 := .unset) (s8 := .unset) (ts := ts) h4 rfl rfl rfl with ⟨hn2, st', e3, e4⟩ | ⟨l, t4, t6, t7, t8, hn2, e3⟩
    · refine ⟨false, ?_⟩
      rw [hn2]
      simp only [dS] at e3
      simp only [fn_law_due, due_is]
      simp [eDisp, hd, e1, e3, e4]
    · refine ⟨true, ?_⟩
      rw [hn2]
      simp only [dS, List.nil_append] at e3
      simp only [fn_law_due, due_is]
      simp [eDisp, hd, e1, e3]
end Mine
namespace Mine
open PySem PySem.W PySem.Calls PyProof.Rows

noncomputable def encS (xs : List (Str × Str)) : List (PyData × PyData) := xs.map fun p => (.str p.1, .str p.2)
noncomputable def lookS (k : Str) : List (Str × Str) → Option Str
  | [] => none
  | (a, v) :: r => if a = k then some v else lookS k r
theorem dget_s (k : Str) : ∀ xs : List (Str × Str), dget (.str k) (encS xs) = (lookS k xs).map PyData.str := by
  intro x_
  induction x_ with
  | nil =>
    exact rfl
  | cons h0_ r ih =>
    obtain ⟨a, v⟩ := h0_
    have ih := ih
    unfold encS at ih ⊢
    simp only [List.map_cons, dget, lookS, eqv_str, decide_eq_true_eq]
    split
    · rfl
    · exact ih
theorem keys_s (k : Str) (xs : List (Str × Str)) : keysOk (.str k) (encS xs) = true := by
  have : (encS xs).all (fun p => isStrK p.1) = true := by
    rw [List.all_eq_true]
    intro p hp
    obtain ⟨q, _, rfl⟩ := List.mem_map.mp hp
    rfl
  unfold keysOk
  rw [this, show isStrK (.str k) = true from rfl]
  simp
theorem dset_s (k v : Str) : ∀ xs : List (Str × Str), k ∉ xs.map (·.1) → dset (.str k) (.str v) (encS xs) = encS (xs ++ [(k, v)]) := by
  intro x_
  induction x_ with
  | nil =>
    intro _
    exact rfl
  | cons h0_ r ih =>
    obtain ⟨a, b⟩ := h0_
    intro h
    simp only [List.map_cons, List.mem_cons, not_or] at h
    have ih := ih h.2
    have hk : ¬ a = k := fun q => h.1 q.symm
    unfold encS at ih ⊢
    simp only [List.map_cons, dset, eqv_str, decide_eq_true_eq, hk, if_false, List.cons_append, ih]
theorem dfold_s : ∀ (xs kvs : List (Str × Str)), ((kvs ++ xs).map (·.1)).Nodup → (kvs ++ xs).length ≤ 9000 → dfold (encS xs) (encS kvs) = some (encS (kvs ++ xs)) := by
  intro x_
  induction x_ with
  | nil =>
    intro kvs _ _
    rw [List.append_nil]; rfl
  | cons h0_ r ih =>
    obtain ⟨k, v⟩ := h0_
    intro kvs h hl
    have hk : k ∉ kvs.map (·.1) := by
      rw [List.map_append, List.nodup_append] at h
      intro q
      exact h.2.2 k q k (by simp) rfl
    have hl9 : (encS kvs).length ≤ 9999 := by
      simp only [encS, List.length_map]
      simp only [List.length_append, List.length_cons] at hl
      omega
    have e : encS ((k, v) :: r) = (.str k, .str v) :: encS r := rfl
    rw [e, dfold, keys_s, dset_s k v kvs hk]
    simp only [hl9, decide_true, Bool.and_self, if_true]
    rw [ih (kvs ++ [(k, v)]) (by rwa [List.append_assoc]) (by rwa [List.append_assoc]), List.append_assoc]
    rfl
noncomputable def mainOf : List (Str × Str) → Option (List (PyData × PyData))
  | [] => none
  | p :: r => some (encS (p :: r))
theorem flush_s {run pre : List (Str × Str)} (hne : run ≠ []) (h : ((pre ++ run).map (·.1)).Nodup) (hl : (pre ++ run).length ≤ 9000) : flushD (encS run) (mainOf pre) = some (encS (pre ++ run)) := by
  have hr : dfold (encS run) [] = some (encS run) := by
    have := dfold_s run [] (by rw [List.nil_append]; rw [List.map_append, List.nodup_append] at h; exact h.2.1) (by rw [List.nil_append]; rw [List.length_append] at hl; omega)
    exact this
  cases pre with
  | nil => exact hr
  | cons p r =>
    have ha : (encS run).all (fun p => isStrK p.1) = true := by
      rw [List.all_eq_true]
      intro p hp
      obtain ⟨q, _, rfl⟩ := List.mem_map.mp hp
      rfl
    have hd := dfold_s run (p :: r) h hl
    simp only [flushD, mainOf, hr, Option.bind_some, ha]
    exact hd
theorem disp_s : ∀ (xs run pre : List (Str × Str)), (run.length + xs.length) % 17 ≠ 0 → run.length < 17 → ((pre ++ run ++ xs).map (·.1)).Nodup → (pre ++ run ++ xs).length ≤ 9000 → dispL (encS xs) (encS run) (mainOf pre) = some (encS (pre ++ run ++ xs)) := by
  intro x_
  induction x_ with
  | nil =>
    intro run pre hm hlt h hl
    rw [List.append_nil] at h hl ⊢
    have hne : run ≠ [] := by rintro rfl; simp at hm
    have he : (encS run).isEmpty = false := by
      cases run with
      | nil => exact absurd rfl hne
      | cons _ _ => rfl
    show (if (encS run).isEmpty then none else flushD (encS run) (mainOf pre)) = _
    rw [he]
    exact flush_s hne h hl
  | cons p xs ih =>
    intro run pre hm hlt h hl
    have e : encS (p :: xs) = (.str p.1, .str p.2) :: encS xs := rfl
    have e2 : encS run ++ [(PyData.str p.1, PyData.str p.2)] = encS (run ++ [p]) := by simp [encS]
    have hl2 : (encS (run ++ [p])).length = run.length + 1 := by simp [encS]
    have e3 : pre ++ run ++ p :: xs = pre ++ (run ++ [p]) ++ xs := by simp
    rw [e3] at h hl ⊢
    rw [e, dispL, e2, hl2]
    simp only [List.length_cons] at hm
    split
    · rename_i hq
      have hq' : run.length + 1 = 17 := by simpa using hq
      rw [flush_s (by simp) (by rw [List.map_append, List.nodup_append] at h; exact h.1) (by rw [List.length_append] at hl; omega), Option.bind_some]
      have hmm : some (encS (pre ++ (run ++ [p]))) = mainOf (pre ++ (run ++ [p])) := by
        cases hp : pre ++ (run ++ [p]) with
        | nil => simp at hp
        | cons _ _ => rfl
      rw [hmm]
      have := ih [] (pre ++ (run ++ [p])) (by simp only [List.length_nil]; omega) (by simp) (by rwa [List.append_nil]) (by rwa [List.append_nil])
      rw [List.append_nil] at this
      exact this
    · rename_i hq
      have hq' : run.length + 1 ≠ 17 := by simpa using hq
      exact ih (run ++ [p]) pre (by simp only [List.length_append, List.length_cons, List.length_nil]; omega) (by simp only [List.length_append, List.length_cons, List.length_nil]; omega) h hl
noncomputable def strPairs : List (Option Expr) → List Expr → List (Str × Str)
  | some (.Constant (.str k) _ _) :: ks, .Constant (.str v) _ _ :: vs => (k, v) :: strPairs ks vs
  | _, _ => []
theorem pairsOf_s {ks : List (Option Expr)} {vs : List Expr} {ps : List (PyData × PyData)} : pairsOf ks vs = some ps → ps = encS (strPairs ks vs) := pairsOf_ind (P := fun ks vs ps => ps = encS (strPairs ks vs)) rfl fun e => congrArg _ e
noncomputable def shp (P : Params) : List (Str × Str) := match shapesExpr P with
  | .Dict ks vs _ => strPairs ks vs
  | _ => []
noncomputable def nodupB : List Str → Bool
  | [] => true
  | x :: xs => !(xs.any fun y => decide (y = x)) && nodupB xs
theorem nodupB_ok : ∀ {xs : List Str}, nodupB xs = true → xs.Nodup := by
  intro x_
  induction x_ with
  | nil =>
    intro _
    exact List.nodup_nil
  | cons x xs ih =>
    intro h
    simp only [nodupB, Bool.and_eq_true, Bool.not_eq_true', List.any_eq_false, decide_eq_true_eq] at h
    refine List.nodup_cons.mpr ⟨fun q => h.1 x q rfl, ih h.2⟩
theorem shp_nodup (P : Params) : nodupB ((shp P).map (·.1)) = true := by kernel_rfl
theorem shp_len (P : Params) : (shp P).length = 45 := by kernel_rfl
theorem disp_of (e : Expr) (xs : List (Str × Str)) (h : okDisp e = true) (hx : xs = match e with | .Dict ks vs _ => strPairs ks vs | _ => []) (hn : nodupB (xs.map (·.1)) = true) (hl : xs.length = 45) : dispOf e = eDisp (some (encS xs)) := by
  unfold okDisp at h
  unfold dispOf
  split at h
  · rename_i ks vs p
    simp only [Bool.and_eq_true] at h
    obtain ⟨ps, e1⟩ := Option.isSome_iff_exists.mp h.1
    have e2 := pairsOf_s e1
    simp only at hx
    subst hx
    simp only [e1, Option.getD_some, e2]
    congr 1
    have := disp_s (strPairs ks vs) [] [] (by rw [hl]; decide) (by decide) (nodupB_ok hn) (by rw [List.append_nil, List.nil_append, hl]; decide)
    exact this
  · cases h
theorem shapes_ev (P : Params) (ts : List Int) : fn_shapes P [] ts = .ok (.dict (encS (shp P))) true ts := by
  have h := disp_of (shapesExpr P) (shp P) (okz P) rfl (shp_nodup P) (shp_len P)
  rfl
theorem shl0 (P : Params) : lookS "call" (shp P) = some "FN" := by kernel_rfl
theorem shl1 (P : Params) : lookS "get_list" (shp P) = some "X" := by kernel_rfl
theorem shl2 (P : Params) : lookS "get_variable" (shp P) = some "RX" := by kernel_rfl
theorem shl3 (P : Params) : lookS "put_unsafe_value" (shp P) = some "YX" := by kernel_rfl
theorem shl4 (P : Params) : lookS "mark" (shp P) = some "R" := by kernel_rfl
theorem shl5 (P : Params) : lookS "execute" (shp P) = some "F" := by kernel_rfl
theorem shl6 (P : Params) : lookS "try" (shp P) = some "LN" := by kernel_rfl
theorem shl7 (P : Params) : lookS "retry" (shp P) = some "L" := by kernel_rfl
theorem shl8 (P : Params) : lookS "trust" (shp P) = some "L" := by kernel_rfl
theorem shl9 (P : Params) : lookS "switch_on_term" (shp P) = some "LLLL" := by kernel_rfl
theorem shl10 (P : Params) : lookS "switch_on_constant" (shp P) = some "TL" := by kernel_rfl
theorem shl11 (P : Params) : lookS "switch_on_structure" (shp P) = some "UL" := by kernel_rfl
theorem shl12 (P : Params) : lookS "get_constant" (shp P) = some "CX" := by kernel_rfl
theorem shl13 (P : Params) : lookS "proceed" (shp P) = some "" := by kernel_rfl
theorem shl14 (P : Params) : lookS "nothing" (shp P) = none := by kernel_rfl
theorem shp_item (P : Params) (k : Str) : itemD (.dict (encS (shp P))) (.str k) = (lookS k (shp P)).map PyData.str := by
  rw [item_dict (keys_s _ _), dget_s]
theorem shp_nin (P : Params) (k : Str) : cmpD .NotIn (.str k) (.dict (encS (shp P))) = some (!(lookS k (shp P)).isSome) := by
  rw [cmp_ninD (keys_s _ _), dget_s]
  cases lookS k (shp P) <;> rfl

theorem KL : lenD (.str "FN") = some 2 ∧ lenD (.str "X") = some 1 ∧ lenD (.str "RX") = some 2 ∧ lenD (.str "YX") = some 2 ∧ lenD (.str "R") = some 1 ∧ lenD (.str "F") = some 1 ∧ lenD (.str "LN") = some 2 ∧ lenD (.str "L") = some 1 ∧ lenD (.str "LLLL") = some 4 ∧ lenD (.str "TL") = some 2 ∧ lenD (.str "UL") = some 2 ∧ lenD (.str "CX") = some 2 ∧ lenD (.str "") = some 0 := by
  refine ⟨?_, ?_, ?_, ?_, ?_, ?_, ?_, ?_, ?_, ?_, ?_, ?_, ?_⟩ <;> kernel_rfl
theorem KI : itemD (.str "FN") (.int 0) = some (.str "F") ∧ itemD (.str "FN") (.int 1) = some (.str "N") ∧ itemD (.str "X") (.int 0) = some (.str "X") ∧ itemD (.str "RX") (.int 0) = some (.str "R") ∧ itemD (.str "YX") (.int 0) = some (.str "Y") ∧ itemD (.str "R") (.int 0) = some (.str "R") ∧ itemD (.str "F") (.int 0) = some (.str "F") ∧
    itemD (.str "LN") (.int 0) = some (.str "L") ∧ itemD (.str "LN") (.int 1) = some (.str "N") ∧ itemD (.str "L") (.int 0) = some (.str "L") ∧ itemD (.str "LLLL") (.int 0) = some (.str "L") ∧ itemD (.str "LLLL") (.int 1) = some (.str "L") ∧ itemD (.str "LLLL") (.int 2) = some (.str "L") ∧ itemD (.str "LLLL") (.int 3) = some (.str "L") ∧
    itemD (.str "TL") (.int 0) = some (.str "T") ∧ itemD (.str "TL") (.int 1) = some (.str "L") ∧ itemD (.str "UL") (.int 0) = some (.str "U") ∧ itemD (.str "UL") (.int 1) = some (.str "L") ∧ itemD (.str "CX") (.int 0) = some (.str "C") ∧ itemD (.str "CX") (.int 1) = some (.str "X") := by
  refine ⟨?_, ?_, ?_, ?_, ?_, ?_, ?_, ?_, ?_, ?_, ?_, ?_, ?_, ?_, ?_, ?_, ?_, ?_, ?_, ?_⟩ <;> kernel_rfl
theorem SL : (Str.ofString "label").length = 5 ∧ (Str.ofString "try").length = 3 ∧ (Str.ofString "retry").length = 5 ∧ (Str.ofString "trust").length = 5 ∧ (Str.ofString "switch_on_term").length = 14 ∧ (Str.ofString "switch_on_constant").length = 18 ∧ (Str.ofString "switch_on_structure").length = 19 ∧ (Str.ofString "call").length = 4 ∧ (Str.ofString "get_constant").length = 12 ∧ (Str.ofString "proceed").length = 7 ∧
    (Str.ofString "get_list").length = 8 ∧ (Str.ofString "nothing").length = 7 ∧ (Str.ofString "get_variable").length = 12 ∧ (Str.ofString "put_unsafe_value").length = 16 ∧ (Str.ofString "mark").length = 4 ∧ (Str.ofString "execute").length = 7 ∧
    (Str.ofString "label ").length = 6 ∧ (Str.ofString " is unknown").length = 11 ∧ (Str.ofString " names no row").length = 13 ∧ (Str.ofString " stands twice").length = 13 ∧ (Str.ofString "wrong operand ").length = 14 ∧ (Str.ofString " of ").length = 4 ∧ (Str.ofString "unknown instruction: ").length = 21 ∧ (Str.ofString "wrong number of operands: ").length = 26 := by
  refine ⟨?_, ?_, ?_, ?_, ?_, ?_, ?_, ?_, ?_, ?_, ?_, ?_, ?_, ?_, ?_, ?_, ?_, ?_, ?_, ?_, ?_, ?_, ?_, ?_⟩ <;> kernel_rfl
theorem int_len {i : Int} (h : LOk i) : (Str.ofString (toString i)).length ≤ 2 := by
  have := below_all 11 (m := i + 1) (Int.add_le_add_right h.1 1) (Int.lt_of_le_of_lt (Int.add_le_add_right h.2 1) (by decide)) (fun m => (Str.ofString (toString (m - 1))).length ≤ 2) (by decide +kernel)
  simpa only [Int.add_sub_cancel] using this
theorem fmt_int {i : Int} (h : LOk i) : fmtD (.int i) = some (.str (Str.ofString (toString i)), false) := by
  show (if _ then _ else _) = _
  rw [if_pos]
  have h1 := h.1
  have h2 := h.2
  omega
theorem empty_len : Str.empty.length = 0 := rfl
theorem join3 {a b : Str} (ha : a.length ≤ 100) (hb : b.length ≤ 100) {F : EF} {st : St} {av : AV} {i : Int} (hF : F st = .ok av st) (hd : av.data st = some (.int i)) (hi : LOk i) :
    ∃ x, evJoin Str.empty [(eDat (.str a)), (eOp1 fmtD F), (eDat (.str b))] st = .ok (.dat (.str x) false) st := by
  have hl := int_len hi
  refine ⟨Str.empty ++ a ++ Str.ofString (toString i) ++ b, ?_⟩
  have l1 : (Str.empty ++ a).length ≤ 10000 := by simp only [Str.length_append, empty_len]; omega
  have l2 : (Str.empty ++ a ++ Str.ofString (toString i)).length ≤ 10000 := by simp only [Str.length_append, empty_len]; omega
  have l3 : (Str.empty ++ a ++ Str.ofString (toString i) ++ b).length ≤ 10000 := by simp only [Str.length_append, empty_len]; omega
  simp only [zA, zB, zC, zD, zE, zF, zG, zH, zI, zJ, zK, zL, zM, zN, zO, zP, zQ, zR, zS, zT, zU, zV, zW, zX, zY, zZ, yA, yB, yC, yD, yE, yF, yG, yH, yI, yJ, yK, yL, yM, yN, yO, yP, yQ, yR, yS, yT, yU, yV, yW, yX, yY, yZ, xA, xB, xC, xD, xE, xF, xG, xH, uK, uL, uM, uN, uO, uP, uQ, uR, uS, uT, uU, uV, uW, uX, uY, uZ, jA, jB, jC, jD, jE, jF, jG, jH, jI, jJ, jK, jL, jM, jN, jO, jP, jQ, jR, jS, jT, jU, jV, jW, hF, hd, fmt_int hi, if_pos l1, if_pos l2, if_pos l3]
theorem join4 {a b nm : Str} (ha : a.length ≤ 100) (hb : b.length ≤ 100) (hn : nm.length ≤ 100) {F F2 : EF} {st : St} {av av2 : AV} {i : Int} (hF : F st = .ok av st) (hd : av.data st = some (.int i)) (hi : LOk i) (hF2 : F2 st = .ok av2 st) (hd2 : av2.data st = some (.str nm)) :
    ∃ x, evJoin Str.empty [(eDat (.str a)), (eOp1 fmtD F), (eDat (.str b)), (eOp1 fmtD F2)] st = .ok (.dat (.str x) false) st := by
  have hl := int_len hi
  have hf : fmtD (.str nm) = some (.str nm, false) := by
    show (if _ then _ else _) = _
    rw [if_pos (by omega)]
  refine ⟨Str.empty ++ a ++ Str.ofString (toString i) ++ b ++ nm, ?_⟩
  have l1 : (Str.empty ++ a).length ≤ 10000 := by simp only [Str.length_append, empty_len]; omega
  have l2 : (Str.empty ++ a ++ Str.ofString (toString i)).length ≤ 10000 := by simp only [Str.length_append, empty_len]; omega
  have l3 : (Str.empty ++ a ++ Str.ofString (toString i) ++ b).length ≤ 10000 := by simp only [Str.length_append, empty_len]; omega
  have l4 : (Str.empty ++ a ++ Str.ofString (toString i) ++ b ++ nm).length ≤ 10000 := by simp only [Str.length_append, empty_len]; omega
  simp only [zA, zB, zC, zD, zE, zF, zG, zH, zI, zJ, zK, zL, zM, zN, zO, zP, zQ, zR, zS, zT, zU, zV, zW, zX, zY, zZ, yA, yB, yC, yD, yE, yF, yG, yH, yI, yJ, yK, yL, yM, yN, yO, yP, yQ, yR, yS, yT, yU, yV, yW, yX, yY, yZ, xA, xB, xC, xD, xE, xF, xG, xH, uK, uL, uM, uN, uO, uP, uQ, uR, uS, uT, uU, uV, uW, uX, uY, uZ, jA, jB, jC, jD, jE, jF, jG, jH, jI, jJ, jK, jL, jM, jN, jO, jP, jQ, jR, jS, jT, jU, jV, jW, hF, hd, fmt_int hi, hF2, hd2, hf, if_pos l1, if_pos l2, if_pos l3, if_pos l4]
end Mine
namespace Mine
open PySem PySem.W PySem.Calls PyProof.Rows

theorem whole_int (i : Int) (ts : List Int) : fn_is_whole [.sh (.int i)] ts = .ok (.bool true) false ts := by
  rfl
theorem whole_none (ts : List Int) : fn_is_whole [.sh .none] ts = .ok (.bool false) false ts := by
  rfl
theorem target_int {i : Int} (h : -1 ≤ i) (ts : List Int) : fn_is_target [.sh (.int i), .sh (.bool false)] ts = .ok (.bool true) false ts := by
  simp [fn_is_target, F_is_target, whole_int, h]
theorem target_no {i : Int} (h : ¬ -1 ≤ i) (ts : List Int) : fn_is_target [.sh (.int i), .sh (.bool false)] ts = .ok (.bool false) false ts := by
  simp [fn_is_target, F_is_target, whole_int, h]
theorem functor_int {i : Int} (h : 0 ≤ i) (ts : List Int) : fn_is_functor [.sh (.int i)] ts = .ok (.bool true) false ts := by
  simp [fn_is_functor, F_is_functor, whole_int, h]
theorem functor_no {i : Int} (h : ¬ 0 ≤ i) (ts : List Int) : fn_is_functor [.sh (.int i)] ts = .ok (.bool false) false ts := by
  simp [fn_is_functor, F_is_functor, whole_int, h]
theorem functor_none (ts : List Int) : fn_is_functor [.sh .none] ts = .ok (.bool false) false ts := by
  rfl
theorem pair_two (a b : PyData) (ts : List Int) : fn_is_pair [.sh (.tuple [a, b])] ts = .ok (.bool true) false ts := by
  rfl
theorem const_int {c v : Int} (h : c = 4 ∨ c = 5) (ts : List Int) : fn_is_constant [.sh (.tuple [.int c, .int v])] ts = .ok (.bool true) false ts := by
  rcases h with rfl | rfl <;> rfl
theorem const_zero {v : Int} (ts : List Int) : fn_is_constant [.sh (.tuple [.int 0, .int v])] ts = .ok (.bool false) false ts := by
  rfl
theorem key_T {c v : Int} (h : c = 4 ∨ c = 5) (ts : List Int) : fn_is_key [.sh (.tuple [.int c, .int v]), .sh (.str "T")] ts = .ok (.bool true) false ts := by
  simp [fn_is_key, F_is_key, cmp_eq, const_int h]
theorem key_T0 {v : Int} (ts : List Int) : fn_is_key [.sh (.tuple [.int 0, .int v]), .sh (.str "T")] ts = .ok (.bool false) false ts := by
  kernel_rfl
theorem key_U {c : Int} (h : 0 ≤ c) (ts : List Int) : fn_is_key [.sh (.int c), .sh (.str "U")] ts = .ok (.bool true) false ts := by
  simp [fn_is_key, F_is_key, cmp_eq, ofString_eq, functor_int h]
theorem key_U0 {c : Int} (h : ¬ 0 ≤ c) (ts : List Int) : fn_is_key [.sh (.int c), .sh (.str "U")] ts = .ok (.bool false) false ts := by
  simp [fn_is_key, F_is_key, cmp_eq, ofString_eq, functor_no h]
noncomputable def tblB : SF := (sSeq (sIf (tOr [(tNot (tOf (eCall fn_is_pair [(eVar 4)]))), (tNot (tOf (eCall fn_is_key [(eItem (eVar 4) (eDat (.int 0))), (eVar 1)]))), (tNot (tOf (eCall fn_is_target [(eItem (eVar 4) (eDat (.int 1))), (eDat (.bool false))])))]) (sSeq (sRet (eDat (.bool false))) sNil) sNil) sNil)
theorem table_is : F_is_table = (sSeq (sIf (tOf (eVar 2)) sStuck sNil) (sSeq (sIf (tNot (tOf (eIsi .tuple (eVar 0)))) (sSeq (sRet (eDat (.bool false))) sNil) sNil) (sSeq (sFor (eVar 0) (tName 4) tblB) (sSeq (sRet (eDat (.bool true))) sNil)))) := rfl
theorem tbl_loop {K : PyData} : ∀ (ps : List (PyData × Int)), (∀ p ∈ ps, (∀ ts, fn_is_key [.sh p.1, .sh K] ts = .ok (.bool true) false ts) ∧ -1 ≤ p.2) → ∀ {V : Slot} {s3 s4 : Slot} {b : PyData} {ts : List Int}, s4.canPut = true →
    ∃ s4', sLoop (tName 4) tblB (ps.map pe) ⟨[V, .sh K, .sh b, s3, s4], ts⟩ = .ok .next ⟨[V, .sh K, .sh b, s3, s4'], ts⟩ := by
  intro x_
  induction x_ with
  | nil =>
    intro hp V s3 s4 b ts h4
    exact ⟨s4, rfl⟩
  | cons p ps ih =>
    intro hp V s3 s4 b ts h4
    obtain ⟨h1, h2⟩ := hp p List.mem_cons_self
    obtain ⟨s4', e⟩ := ih (fun x hx => hp x (List.mem_cons_of_mem _ hx)) (V := V) (s3 := s3) (s4 := .sh (pe p)) (b := b) (ts := ts) rfl
    refine ⟨s4', ?_⟩
    have e0 : tblB ⟨[V, .sh K, .sh b, s3, .sh (pe p)], ts⟩ = .ok .next ⟨[V, .sh K, .sh b, s3, .sh (pe p)], ts⟩ := by
      simp [tblB, pe, pair_two, h1, target_int h2]
    simp only [List.map_cons, zA, zB, zC, zD, zE, zF, zG, zH, zI, zJ, zK, zL, zM, zN, zO, zP, zQ, zR, zS, zT, zU, zV, zW, zX, wT, wU, wV, wW, wX, wY, wZ, vA, vB, vC, vD, vE, vF, vG, vH, vI, vJ, vK, vL, vM, vN, vO, vP, vQ, vR, vS, vT, vU, vV, vW, vX, vY, vZ, uA, uB, uC, uD, uE, uF, uG, uH, uI, uJ, uK, uL, uM, uN, uO, uP, uQ, uR, uS, uT, uU, uV, uW, uX, uY, uZ, jA, jB, jC, jD, jE, jF, jG, jH, jI, jJ, jK, jL, jM, jN, jO, jP, jQ, jR, jS, jT, jU, jV, jW, List.getElem?_cons_succ, List.getElem?_cons_zero, h4, if_true, List.set_cons_succ, List.set_cons_zero, e0, e]
theorem table_ok {K : PyData} (ps : List (PyData × Int)) (hp : ∀ p ∈ ps, (∀ ts, fn_is_key [.sh p.1, .sh K] ts = .ok (.bool true) false ts) ∧ -1 ≤ p.2) (ts : List Int) : fn_is_table [.sh (.tuple (ps.map pe)), .sh K, .sh (.bool false)] ts = .ok (.bool true) false ts := by
  obtain ⟨s4', e⟩ := tbl_loop ps hp (V := .sh (.tuple (ps.map pe))) (s3 := .unset) (s4 := .unset) (b := .bool false) (ts := ts) rfl
  simp only [fn_is_table, table_is]
  simp [e]
theorem table_con {ps : List ((Int × Int) × Int)} (h : ∀ p ∈ ps, (p.1.1 = 4 ∨ p.1.1 = 5) ∧ LOk p.2) (ts : List Int) : fn_is_table [.sh (.tuple (ps.map ckey)), .sh (.str "T"), .sh (.bool false)] ts = .ok (.bool true) false ts := by
  have hmap : (ps.map cpair).map pe = ps.map ckey := by rw [List.map_map]; rfl
  rw [← hmap]
  refine table_ok _ (fun p hp => ?_) ts
  obtain ⟨q, hq, rfl⟩ := List.mem_map.mp hp
  exact ⟨fun ts => key_T (h q hq).1 ts, (h q hq).2.1⟩
theorem table_str {ps : List (Int × Int)} (h : ∀ p ∈ ps, 0 ≤ p.1 ∧ LOk p.2) (ts : List Int) : fn_is_table [.sh (.tuple (ps.map skey)), .sh (.str "U"), .sh (.bool false)] ts = .ok (.bool true) false ts := by
  have hmap : (ps.map spair).map pe = ps.map skey := by rw [List.map_map]; rfl
  rw [← hmap]
  refine table_ok _ (fun p hp => ?_) ts
  obtain ⟨q, hq, rfl⟩ := List.mem_map.mp hp
  exact ⟨fun ts => key_U (h q hq).1 ts, (h q hq).2.1⟩
theorem table_bad1 (ts : List Int) : fn_is_table [.sh (.list []), .sh (.str "T"), .sh (.bool false)] ts = .ok (.bool false) false ts := by
  rfl
theorem table_bad2 (ts : List Int) : fn_is_table [.sh (.tuple [.tuple [.int (-1), .int (-1)]]), .sh (.str "U"), .sh (.bool false)] ts = .ok (.bool false) false ts := by
  kernel_rfl
theorem table_bad3 (ts : List Int) : fn_is_table [.sh (.tuple [.tuple [.tuple [.int 0, .int 1], .int (-1)]]), .sh (.str "T"), .sh (.bool false)] ts = .ok (.bool false) false ts := by
  kernel_rfl

theorem opd_L {i : Int} (h : -1 ≤ i) (ts : List Int) : fn_is_operand [.sh (.int i), .sh (.str "L"), .sh (.bool false)] ts = .ok (.bool true) false ts := by
  simp [fn_is_operand, F_is_operand, cmp_eq, ofString_eq, target_int h]
theorem opd_L0 {i : Int} (h : ¬ -1 ≤ i) (ts : List Int) : fn_is_operand [.sh (.int i), .sh (.str "L"), .sh (.bool false)] ts = .ok (.bool false) false ts := by
  simp [fn_is_operand, F_is_operand, cmp_eq, ofString_eq, target_no h]
theorem opd_N {i : Int} (h : 0 ≤ i) (ts : List Int) : fn_is_operand [.sh (.int i), .sh (.str "N"), .sh (.bool false)] ts = .ok (.bool true) false ts := by
  simp [fn_is_operand, F_is_operand, cmp_eq, ofString_eq, functor_int h]
theorem opd_F {i : Int} (h : 0 ≤ i) (ts : List Int) : fn_is_operand [.sh (.int i), .sh (.str "F"), .sh (.bool false)] ts = .ok (.bool true) false ts := by
  simp [fn_is_operand, F_is_operand, cmp_eq, ofString_eq, functor_int h]
theorem opd_F0 {i : Int} (h : ¬ 0 ≤ i) (ts : List Int) : fn_is_operand [.sh (.int i), .sh (.str "F"), .sh (.bool false)] ts = .ok (.bool false) false ts := by
  simp [fn_is_operand, F_is_operand, cmp_eq, ofString_eq, functor_no h]
theorem opd_Fn (ts : List Int) : fn_is_operand [.sh .none, .sh (.str "F"), .sh (.bool false)] ts = .ok (.bool false) false ts := by
  kernel_rfl
theorem opd_C {c v : Int} (h : c = 4 ∨ c = 5) (ts : List Int) : fn_is_operand [.sh (.tuple [.int c, .int v]), .sh (.str "C"), .sh (.bool false)] ts = .ok (.bool true) false ts := by
  simp [fn_is_operand, F_is_operand, cmp_eq, ofString_eq, const_int h]
theorem opd_C0 {v : Int} (ts : List Int) : fn_is_operand [.sh (.tuple [.int 0, .int v]), .sh (.str "C"), .sh (.bool false)] ts = .ok (.bool false) false ts := by
  kernel_rfl
theorem opd_X {r : Int} (h : 1 ≤ r) (ts : List Int) : fn_is_operand [.sh (.tuple [.str "x", .int r]), .sh (.str "X"), .sh (.bool false)] ts = .ok (.bool true) false ts := by
  simp [fn_is_operand, F_is_operand, fn_is_register, F_is_register, cmp_eq, cmp_inT, ofString_eq, pair_two, whole_int, h]
theorem opd_X0 {r : Int} (ts : List Int) : fn_is_operand [.sh (.tuple [.str "y", .int r]), .sh (.str "X"), .sh (.bool false)] ts = .ok (.bool false) false ts := by
  kernel_rfl
theorem opd_Y0 {r : Int} (ts : List Int) : fn_is_operand [.sh (.tuple [.str "x", .int r]), .sh (.str "Y"), .sh (.bool false)] ts = .ok (.bool false) false ts := by
  kernel_rfl
theorem opd_R0 (ts : List Int) : fn_is_operand [.sh (.tuple [.str "x", .int 0]), .sh (.str "R"), .sh (.bool false)] ts = .ok (.bool false) false ts := by
  kernel_rfl
theorem opd_Rz {r : Int} (ts : List Int) : fn_is_operand [.sh (.tuple [.str "z", .int r]), .sh (.str "R"), .sh (.bool false)] ts = .ok (.bool false) false ts := by
  kernel_rfl
theorem opd_T {x : PyData} {b : Bool} (h : ∀ ts, fn_is_table [.sh x, .sh (.str "T"), .sh (.bool false)] ts = .ok (.bool b) false ts) (ts : List Int) : fn_is_operand [.sh x, .sh (.str "T"), .sh (.bool false)] ts = .ok (.bool b) false ts := by
  simp [fn_is_operand, F_is_operand, cmp_eq, ofString_eq, h]
theorem opd_U {x : PyData} {b : Bool} (h : ∀ ts, fn_is_table [.sh x, .sh (.str "U"), .sh (.bool false)] ts = .ok (.bool b) false ts) (ts : List Int) : fn_is_operand [.sh x, .sh (.str "U"), .sh (.bool false)] ts = .ok (.bool b) false ts := by
  simp [fn_is_operand, F_is_operand, cmp_eq, ofString_eq, h]

noncomputable def wrongJ : EF := (evJoin Str.empty [(eDat (.str "wrong operand ")), (eOp1 fmtD (eOp2 (binD .Add) (eVar 5) (eDat (.int 1)))), (eDat (.str " of ")), (eOp1 fmtD (eVar 3))])
noncomputable def chkB : SF := (sSeq (sIf (tNot (tOf (eCall fn_is_operand [(eItem (eVar 1) (eOp2 (binD .Add) (eVar 5) (eDat (.int 1)))), (eItem (eVar 4) (eVar 5)), (eVar 2)]))) (sSeq (sRaise wrongJ) sNil) sNil) sNil)
theorem check_is : F_check_row = (sSeq (sIf (tOr [(tNot (tOf (eIsi .tuple (eVar 1)))), (tst2 (cmpD .Eq) (eFn1 (fun x => (lenD x).map fun i => (.int i, false)) (eVar 1)) (eDat (.int 0))), (tNot (tOf (eIsi .str (eItem (eVar 1) (eDat (.int 0))))))]) (sSeq (sRaise (eDat (.str "not an instruction"))) sNil) sNil) (sSeq (sAssign 3 (eItem (eVar 1) (eDat (.int 0)))) (sSeq (sIf (tst2 (cmpD .NotIn) (eVar 3) (eVar 0)) (sSeq (sRaise (eOp2 (binD .Add) (eDat (.str "unknown instruction: ")) (eVar 3))) sNil) sNil) (sSeq (sAssign 4 (eItem (eVar 0) (eVar 3))) (sSeq (sIf (tst2 (cmpD .NotEq) (eFn1 (fun x => (lenD x).map fun i => (.int i, false)) (eVar 1)) (eOp2 (binD .Add) (eFn1 (fun x => (lenD x).map fun i => (.int i, false)) (eVar 4)) (eDat (.int 1)))) (sSeq (sRaise (eOp2 (binD .Add) (eDat (.str "wrong number of operands: ")) (eVar 3))) sNil) sNil) (sSeq (sForR (eFn1 (fun x => (lenD x).map fun i => (.int i, false)) (eVar 4)) (tName 5) chkB) sNil)))))) := rfl
theorem wrong_ev {a b c d : Slot} {nm : Str} {i : Int} {ts : List Int} (h0 : 0 ≤ i) (h1 : i ≤ 3) (hn : nm.length ≤ 100) : ∃ x, wrongJ ⟨[a, b, c, .sh (.str nm), d, .sh (.int i)], ts⟩ = .ok (.dat (.str x) false) ⟨[a, b, c, .sh (.str nm), d, .sh (.int i)], ts⟩ :=
  join4 (F := (eOp2 (binD .Add) (eVar 5) (eDat (.int 1)))) (F2 := eVar 3) (av := .dat (.int (i + 1)) false) (av2 := .var 3) (i := i + 1) (by rw [SL.2.2.2.2.2.2.2.2.2.2.2.2.2.2.2.2.2.2.2.2.1]; decide) (by rw [SL.2.2.2.2.2.2.2.2.2.2.2.2.2.2.2.2.2.2.2.2.2.1]; decide) hn (by simp) rfl ⟨by omega, by omega⟩ (by simp) (by simp)
theorem chk_ev {T R K : PyData} {nm : Str} {i : Int} {x k : PyData} {b : Bool} {ts : List Int} (hx : itemD R (.int (i + 1)) = some x) (hk : itemD K (.int i) = some k) (ho : ∀ ts, fn_is_operand [.sh x, .sh k, .sh (.bool false)] ts = .ok (.bool b) false ts) (h0 : 0 ≤ i) (h1 : i ≤ 3) (hn : nm.length ≤ 100) :
    chkB ⟨[.sh T, .sh R, .sh (.bool false), .sh (.str nm), .sh K, .sh (.int i)], ts⟩ = if b then .ok .next ⟨[.sh T, .sh R, .sh (.bool false), .sh (.str nm), .sh K, .sh (.int i)], ts⟩ else .raise := by
  cases b with
  | true => simp [chkB, hx, hk, ho]
  | false =>
    obtain ⟨x, e⟩ := wrong_ev (a := .sh T) (b := .sh R) (c := .sh (.bool false)) (d := .sh K) (ts := ts) h0 h1 hn
    simp [chkB, hx, hk, ho, e]
end Mine
namespace Mine
open PySem PySem.W PySem.Calls PyProof.Rows

inductive Chk (R K : PyData) : Nat → List Bool → Prop
  | nil {j : Nat} : Chk R K j []
  | cons {j : Nat} {x k : PyData} {b : Bool} {bs : List Bool} (hx : itemD R (.int (j + 1)) = some x) (hk : itemD K (.int j) = some k) (ho : ∀ ts, fn_is_operand [.sh x, .sh k, .sh (.bool false)] ts = .ok (.bool b) false ts) (r : Chk R K (j + 1) bs) : Chk R K j (b :: bs)
theorem chk_loop {T R K : PyData} {nm : Str} (hn : nm.length ≤ 100) : ∀ {bs : List Bool} {j : Nat}, Chk R K j bs → j + bs.length ≤ 4 → ∀ {s5 : Slot} {ts : List Int}, s5.canPut = true →
    (bs.all id = false ∧ sLoop (tName 5) chkB ((List.range' j bs.length).map fun (k : Nat) => PyData.int k) ⟨[.sh T, .sh R, .sh (.bool false), .sh (.str nm), .sh K, s5], ts⟩ = .raise) ∨
    (bs.all id = true ∧ ∃ s5', sLoop (tName 5) chkB ((List.range' j bs.length).map fun (k : Nat) => PyData.int k) ⟨[.sh T, .sh R, .sh (.bool false), .sh (.str nm), .sh K, s5], ts⟩ = .ok .next ⟨[.sh T, .sh R, .sh (.bool false), .sh (.str nm), .sh K, s5'], ts⟩) := by
  intro bs j H
  induction H with
  | nil => intro hl s5 ts h5; exact .inr ⟨rfl, s5, rfl⟩
  | @cons j x k b bs hx hk ho r ih =>
    intro hl s5 ts h5
    simp only [List.length_cons] at hl
    have e0 := chk_ev (T := T) (nm := nm) (ts := ts) hx hk ho (by omega) (by omega) hn
    have step : sLoop (tName 5) chkB ((List.range' j (b :: bs).length).map fun (k : Nat) => PyData.int k) ⟨[.sh T, .sh R, .sh (.bool false), .sh (.str nm), .sh K, s5], ts⟩ = (chkB ⟨[.sh T, .sh R, .sh (.bool false), .sh (.str nm), .sh K, .sh (.int j)], ts⟩).bind (loopK2 (tName 5) chkB ((List.range' (j + 1) bs.length).map fun (k : Nat) => PyData.int k)) := by rw [List.length_cons, List.range'_succ, List.map_cons]; exact loop_name rfl h5 rfl
    rw [step, e0]
    cases b with
    | false => exact .inl ⟨rfl, rfl⟩
    | true =>
      rw [if_pos rfl]
      simp only [zA, zB, zC, zD, zE, zF, zG, zH, zI, zJ, zK, zL, zM, zN, zO, zP, zQ, zR, zS, zT, zU, zV, zW, zX, uK, uL, uM, uN, uO, uP, uQ, uR, uS, uT, uU, uV, uW, uX, uY, uZ, jA, jB, jC, jD, jE, jF, jG, jH, jI, jJ, jK, jL, jM, jN, jO, jP, jQ, jR, jS, jT, jU, jV, jW, List.all_cons, id, Bool.true_and]
      exact ih (by omega) rfl
theorem check_gen {P : Params} {nm ks : Str} {ops : List PyData} {bs : List Bool} (hn : nm.length ≤ 100) (hl : lookS nm (shp P) = some ks) (hk : lenD (.str ks) = some (bs.length : Int)) (ho : ops.length = bs.length) (hb : bs.length ≤ 4) (C : Chk (.tuple (.str nm :: ops)) (.str ks) 0 bs) (ts : List Int) :
    fn_check_row [.sh (.dict (encS (shp P))), .sh (.tuple (.str nm :: ops)), .sh (.bool false)] ts = if bs.all id then .ok .none false ts else .raise := by
  have hlen : ops.length + 1 ≤ 100000 := by omega
  have hr := List.range_eq_range' (n := bs.length)
  have hbl : (0 : Int) ≤ bs.length ∧ (bs.length : Int) ≤ 100000 := by omega
  have hb2 : bs.length ≤ 100000 := by omega
  have hne : ¬ ((bs.length : Int) + 1 = 0) := by omega
  have hb3 : bs.length ≤ 99999 := by omega
  simp only [fn_check_row, check_is]
  rcases chk_loop (T := .dict (encS (shp P))) hn C (by omega) (s5 := .unset) (ts := ts) rfl with ⟨h1, e⟩ | ⟨h1, s5', e⟩
  · simp [cmp_eq, cmp_ne, shp_nin, shp_item, hl, hlen, hne, hk, hr, ho, hb2, hb3, hbl, e, h1]
  · simp [cmp_eq, cmp_ne, shp_nin, shp_item, hl, hlen, hne, hk, hr, ho, hb2, hb3, hbl, e, h1]

theorem check_good {P : Params} {r : Row} (h : r.Ok) (hb : r.isBad = false) (hl : r.isLab = false) (ts : List Int) : fn_check_row [.sh (.dict (encS (shp P))), .sh r.enc, .sh (.bool false)] ts = .ok .none false ts := by
  cases r with
  | bad x b => cases hb
  | lab k => cases hl
  | try_ l n => exact check_gen (bs := [true, true]) (by decide +kernel) (by rfl) (by rfl) rfl (by decide) (.cons rfl KI.2.2.2.2.2.2.2.1 (opd_L h.1.1) (.cons rfl KI.2.2.2.2.2.2.2.2.1 (opd_N h.2) .nil)) ts
  | retry l => exact check_gen (bs := [true]) (by decide +kernel) (shl7 P) (by rfl) rfl (by decide) (.cons rfl KI.2.2.2.2.2.2.2.2.2.1 (opd_L h.1) .nil) ts
  | trust l => exact check_gen (bs := [true]) (by decide +kernel) (shl8 P) (by rfl) rfl (by decide) (.cons rfl KI.2.2.2.2.2.2.2.2.2.1 (opd_L h.1) .nil) ts
  | term a b c d => exact check_gen (bs := [true, true, true, true]) (by decide +kernel) (shl9 P) (by rfl) rfl (by decide) (.cons rfl KI.2.2.2.2.2.2.2.2.2.2.1 (opd_L h.1.1) (.cons rfl KI.2.2.2.2.2.2.2.2.2.2.2.1 (opd_L h.2.1.1) (.cons rfl KI.2.2.2.2.2.2.2.2.2.2.2.2.1 (opd_L h.2.2.1.1) (.cons rfl KI.2.2.2.2.2.2.2.2.2.2.2.2.2.1 (opd_L h.2.2.2.1) .nil)))) ts
  | con ps l => exact check_gen (bs := [true, true]) (by decide +kernel) (shl10 P) (by rfl) rfl (by decide) (.cons rfl KI.2.2.2.2.2.2.2.2.2.2.2.2.2.2.1 (opd_T (table_con h.2.2)) (.cons rfl KI.2.2.2.2.2.2.2.2.2.2.2.2.2.2.2.1 (opd_L h.1.1) .nil)) ts
  | str ps l => exact check_gen (bs := [true, true]) (by decide +kernel) (shl11 P) (by rfl) rfl (by decide) (.cons rfl KI.2.2.2.2.2.2.2.2.2.2.2.2.2.2.2.2.1 (opd_U (table_str h.2.2)) (.cons rfl KI.2.2.2.2.2.2.2.2.2.2.2.2.2.2.2.2.2.1 (opd_L h.1.1) .nil)) ts
  | call a b => exact check_gen (bs := [true, true]) (by decide +kernel) (shl0 P) (by rfl) rfl (by decide) (.cons rfl KI.1 (opd_F h.1) (.cons rfl KI.2.1 (opd_N h.2) .nil)) ts
  | getc v m => exact check_gen (bs := [true, true]) (by decide +kernel) (shl12 P) (by rfl) rfl (by decide) (.cons rfl KI.2.2.2.2.2.2.2.2.2.2.2.2.2.2.2.2.2.2.1 (opd_C (.inr rfl)) (.cons rfl KI.2.2.2.2.2.2.2.2.2.2.2.2.2.2.2.2.2.2.2 (opd_X h) .nil)) ts
  | proc => exact check_gen (bs := []) (by decide +kernel) (shl13 P) (by rfl) rfl (by decide) .nil ts
theorem KI2 : itemD (.str "RX") (.int 1) = some (.str "X") ∧ itemD (.str "YX") (.int 1) = some (.str "X") := by
  refine ⟨?_, ?_⟩ <;> kernel_rfl
theorem check_badP {P : Params} (ts : List Int) : ∀ p ∈ badP, p.2 = false → fn_check_row [.sh (.dict (encS (shp P))), .sh p.1, .sh (.bool false)] ts = .raise := by
  have pl : 0 < (Str.ofString "unknown instruction: ").length ∧ 0 < (Str.ofString "wrong number of operands: ").length := by simp [SL]
  simp only [badP, List.forall_mem_cons]
  refine ⟨?_, ?_, ?_, ?_, ?_, ?_, ?_, ?_, ?_, ?_, ?_, ?_, ?_, ?_, ?_, ?_, fun _ h => by cases h⟩ <;> intro hf
  · rfl
  · exact check_gen (bs := [false, true]) (by decide +kernel) (shl0 P) (by rfl) rfl (by decide) (.cons rfl KI.1 (opd_F0 (by decide)) (.cons rfl KI.2.1 (opd_N (by decide)) .nil)) ts
  · exact check_gen (bs := [false]) (by decide +kernel) (shl1 P) (by rfl) rfl (by decide) (.cons rfl KI.2.2.1 opd_X0 .nil) ts
  · rfl
  · exact check_gen (bs := [false, true]) (by decide +kernel) (shl12 P) (by rfl) rfl (by decide) (.cons rfl KI.2.2.2.2.2.2.2.2.2.2.2.2.2.2.2.2.2.2.1 opd_C0 (.cons rfl KI.2.2.2.2.2.2.2.2.2.2.2.2.2.2.2.2.2.2.2 (opd_X (by decide)) .nil)) ts
  · exact check_gen (bs := [false, true]) (by decide +kernel) (shl2 P) (by rfl) rfl (by decide) (.cons rfl KI.2.2.2.1 opd_R0 (.cons rfl KI2.1 (opd_X (by decide)) .nil)) ts
  · exact check_gen (bs := [false, true]) (by decide +kernel) (shl10 P) (by rfl) rfl (by decide) (.cons rfl KI.2.2.2.2.2.2.2.2.2.2.2.2.2.2.1 (opd_T table_bad1) (.cons rfl KI.2.2.2.2.2.2.2.2.2.2.2.2.2.2.2.1 (opd_L (by decide)) .nil)) ts
  · cases hf
  · rfl
  · exact check_gen (bs := [false, true]) (by decide +kernel) (shl3 P) (by rfl) rfl (by decide) (.cons rfl KI.2.2.2.2.1 opd_Y0 (.cons rfl KI2.2 (opd_X (by decide)) .nil)) ts
  · exact check_gen (bs := [false, true]) (by decide +kernel) (shl6 P) (by rfl) rfl (by decide) (.cons rfl KI.2.2.2.2.2.2.2.1 (opd_L0 (by decide)) (.cons rfl KI.2.2.2.2.2.2.2.2.1 (opd_N (by decide)) .nil)) ts
  · rfl
  · exact check_gen (bs := [false]) (by decide +kernel) (shl4 P) (by rfl) rfl (by decide) (.cons rfl KI.2.2.2.2.2.1 opd_Rz .nil) ts
  · exact check_gen (bs := [false, true]) (by decide +kernel) (shl11 P) (by rfl) rfl (by decide) (.cons rfl KI.2.2.2.2.2.2.2.2.2.2.2.2.2.2.2.2.1 (opd_U table_bad2) (.cons rfl KI.2.2.2.2.2.2.2.2.2.2.2.2.2.2.2.2.2.1 (opd_L (by decide)) .nil)) ts
  · exact check_gen (bs := [false, true]) (by decide +kernel) (shl10 P) (by rfl) rfl (by decide) (.cons rfl KI.2.2.2.2.2.2.2.2.2.2.2.2.2.2.1 (opd_T table_bad3) (.cons rfl KI.2.2.2.2.2.2.2.2.2.2.2.2.2.2.2.1 (opd_L (by decide)) .nil)) ts
  · exact check_gen (bs := [false]) (by decide +kernel) (shl5 P) (by rfl) rfl (by decide) (.cons rfl KI.2.2.2.2.2.2.1 opd_Fn .nil) ts
end Mine
namespace Mine
open PySem PySem.W PySem.Calls PyProof.Rows

noncomputable def unkJ : EF := (evJoin Str.empty [(eDat (.str "label ")), (eOp1 fmtD (eVar 0)), (eDat (.str " is unknown"))])
noncomputable def norowJ : EF := (evJoin Str.empty [(eDat (.str "label ")), (eOp1 fmtD (eVar 0)), (eDat (.str " names no row"))])
theorem resl_is : F_resolve_label = (sSeq (sIf (tst2 (cmpD .Eq) (eVar 0) (eOp1 negD (eDat (.int 1)))) (sSeq (sRet (eDat (.int 2))) sNil) sNil) (sSeq (sIf (tst2 (cmpD .NotIn) (eVar 0) (eVar 1)) (sSeq (sRaise unkJ) sNil) sNil) (sSeq (sIf (tst2 (cmpD .GtE) (eItem (eVar 1) (eVar 0)) (eVar 2)) (sSeq (sRaise norowJ) sNil) sNil) (sSeq (sRet (eItem (eVar 1) (eVar 0))) sNil)))) := rfl
theorem resl_ev {w : List (Int × Int)} {e l : Int} (hl : LOk l) (ts : List Int) : fn_resolve_label [.sh (.int l), .sh (.dict (encW w)), .sh (.int e)] ts = match res w e l with | none => .raise | some a => .ok (.int a) false ts := by
  have hko := keys_w l w
  have hg := dget_w l w
  have hit := item_dict hko
  rw [hg] at hit
  simp only [fn_resolve_label, resl_is]
  by_cases h1 : l = -1
  · subst h1
    rfl
  · simp only [res, if_neg h1]
    obtain ⟨x1, j1⟩ := join3 (a := "label ") (b := " is unknown") (by simp [SL]) (by simp [SL]) (F := eVar 0) (st := ⟨[.sh (.int l), .sh (.dict (encW w)), .sh (.int e)], ts⟩) (av := .var 0) (i := l) rfl rfl hl
    obtain ⟨x2, j2⟩ := join3 (a := "label ") (b := " names no row") (by simp [SL]) (by simp [SL]) (F := eVar 0) (st := ⟨[.sh (.int l), .sh (.dict (encW w)), .sh (.int e)], ts⟩) (av := .var 0) (i := l) rfl rfl hl
    have r1 : unkJ ⟨[.sh (.int l), .sh (.dict (encW w)), .sh (.int e)], ts⟩ = _ := j1
    have r2 : norowJ ⟨[.sh (.int l), .sh (.dict (encW w)), .sh (.int e)], ts⟩ = _ := j2
    cases hk : look l w with
    | none =>
      rw [hk] at hg
      simp [cmp_eq, h1, cmp_ninD hko, hg, r1]
    | some a =>
      rw [hk] at hg hit
      simp only [Option.map_some] at hg hit
      by_cases he : e ≤ a
      · simp [cmp_eq, h1, cmp_ninD hko, hg, hit, he, r2]
      · simp [cmp_eq, h1, cmp_ninD hko, hg, hit, he]
noncomputable def rtB : SF := (sSeq (sIf (tst2 (cmpD .In) (eItem (eVar 4) (eDat (.int 0))) (eVar 3)) (sSeq (sRaise (eDat (.str "a key stands twice in a table"))) sNil) sNil) (sSeq (sSet 3 (eItem (eVar 4) (eDat (.int 0))) (eCall fn_resolve_label [(eItem (eVar 4) (eDat (.int 1))), (eVar 1), (eVar 2)])) sNil))
theorem rt_is : F_resolve_table = (sSeq (sAssign 3 (eDisp (some []))) (sSeq (sFor (eVar 0) (tName 4) rtB) (sSeq (sRet (eVar 3)) sNil))) := rfl
theorem rt_loop {w : List (Int × Int)} {e : Int} {b : Bool} : ∀ (ps : List (PyData × Int)) (t : List (PyData × PyData)), (∀ p ∈ ps, kok b p.1 = true ∧ LOk p.2) → (∀ p ∈ t, kok b p.1 = true) → t.length + ps.length ≤ 1000 →
    ∀ {a0 s4 : Slot} {ts : List Int}, s4.canPut = true →
    (rtab w e ps t = none ∧ sLoop (tName 4) rtB (ps.map pe) ⟨[a0, .sh (.dict (encW w)), .sh (.int e), .own (.dict t), s4], ts⟩ = .raise) ∨
    (∃ t' s4', rtab w e ps t = some t' ∧ sLoop (tName 4) rtB (ps.map pe) ⟨[a0, .sh (.dict (encW w)), .sh (.int e), .own (.dict t), s4], ts⟩ = .ok .next ⟨[a0, .sh (.dict (encW w)), .sh (.int e), .own (.dict t'), s4'], ts⟩) := by
  intro x_
  induction x_ with
  | nil =>
    intro t hp ht hl a0 s4 ts h4
    exact .inr ⟨t, s4, rfl, rfl⟩
  | cons h0_ ps ih =>
    obtain ⟨k, l⟩ := h0_
    intro t hp ht hl a0 s4 ts h4
    simp only [List.length_cons] at hl
    obtain ⟨hk, hs⟩ := hp (k, l) List.mem_cons_self
    simp only at hk hs
    have hko := keys_kok hk ht
    have hl9 : t.length ≤ 9999 := by omega
    have hr := resl_ev (w := w) (e := e) hs ts
    have step : sLoop (tName 4) rtB (((k, l) :: ps).map pe) ⟨[a0, .sh (.dict (encW w)), .sh (.int e), .own (.dict t), s4], ts⟩ = (rtB ⟨[a0, .sh (.dict (encW w)), .sh (.int e), .own (.dict t), .sh (pe (k, l))], ts⟩).bind (loopK2 (tName 4) rtB (ps.map pe)) := loop_name rfl h4 rfl
    rw [step]
    simp only [rtab]
    by_cases hg : (dget k t).isSome = true
    · rw [if_pos hg]
      have e0 : rtB ⟨[a0, .sh (.dict (encW w)), .sh (.int e), .own (.dict t), .sh (pe (k, l))], ts⟩ = .raise := by
        simp [rtB, pe, cmp_inD hko, hg]
      rw [e0]
      exact .inl ⟨rfl, rfl⟩
    · rw [if_neg hg]
      have hg' : (dget k t).isSome = false := by simpa using hg
      cases hrr : res w e l with
      | none =>
        rw [hrr] at hr
        have e0 : rtB ⟨[a0, .sh (.dict (encW w)), .sh (.int e), .own (.dict t), .sh (pe (k, l))], ts⟩ = .raise := by
          simp [rtB, pe, cmp_inD hko, hg', hr]
        rw [e0]
        exact .inl ⟨rfl, rfl⟩
      | some a =>
        rw [hrr] at hr
        have e0 : rtB ⟨[a0, .sh (.dict (encW w)), .sh (.int e), .own (.dict t), .sh (pe (k, l))], ts⟩ = .ok .next ⟨[a0, .sh (.dict (encW w)), .sh (.int e), .own (.dict (dset k (.int a) t)), .sh (pe (k, l))], ts⟩ := by
          simp [rtB, pe, cmp_inD hko, hg', hr, hko, hl9]
        rw [e0]
        have := dset_len k (.int a) t
        exact ih _ (fun p hp' => hp p (List.mem_cons_of_mem _ hp')) (dset_kok hk ht) (by omega) rfl
theorem rt_ev {w : List (Int × Int)} {e : Int} {b : Bool} {ps : List (PyData × Int)} (hp : ∀ p ∈ ps, kok b p.1 = true ∧ LOk p.2) (hl : ps.length ≤ 100) (ts : List Int) :
    fn_resolve_table [.sh (.tuple (ps.map pe)), .sh (.dict (encW w)), .sh (.int e)] ts = match rtab w e ps [] with | none => .raise | some t => .ok (.dict t) true ts := by
  simp only [fn_resolve_table, rt_is]
  rcases rt_loop (w := w) (e := e) ps [] hp (by simp) (by simp only [List.length_nil]; omega) (a0 := .sh (.tuple (ps.map pe))) (s4 := .unset) (ts := ts) rfl with ⟨h1, e1⟩ | ⟨t', s4', h1, e1⟩
  · rw [h1]
    simp [eDisp, e1]
  · rw [h1]
    simp [eDisp, e1]

inductive Val (w : List (Int × Int)) (e : Int) (k : Str) : PyData → Option PyData → Prop
  | lab {l : Int} (hk : k = "L") (hl : LOk l) : Val w e k (.int l) ((res w e l).map .int)
  | tab {ps : List (PyData × Int)} {b : Bool} (hk : k = "T" ∨ k = "U") (hp : ∀ p ∈ ps, kok b p.1 = true ∧ LOk p.2) (hl : ps.length ≤ 100) : Val w e k (.tuple (ps.map pe)) ((rtab w e ps []).map .dict)
  | oth {x : PyData} (hk : k = "F" ∨ k = "N" ∨ k = "C" ∨ k = "X") : Val w e k x (some x)
noncomputable def riB : SF := (sSeq (sAssign 7 (eItem (eVar 1) (eOp2 (binD .Add) (eVar 6) (eDat (.int 1))))) (sSeq (sIf (tst2 (cmpD .Eq) (eItem (eVar 4) (eVar 6)) (eDat (.str "L"))) (sSeq (sAssign 7 (eCall fn_resolve_label [(eVar 7), (eVar 2), (eVar 3)])) sNil) (sSeq (sIf (tOr [(tst2 (cmpD .Eq) (eItem (eVar 4) (eVar 6)) (eDat (.str "T"))), (tst2 (cmpD .Eq) (eItem (eVar 4) (eVar 6)) (eDat (.str "U")))]) (sSeq (sAssign 7 (eCall fn_resolve_table [(eVar 7), (eVar 2), (eVar 3)])) sNil) sNil) sNil)) (sSeq (sMeth 5 appendD [(eVar 7)]) sNil)))
theorem ri_is : F_resolve_instruction = (sSeq (sExpr (eCall fn_check_row [(eVar 0), (eVar 1), (eDat (.bool false))])) (sSeq (sAssign 4 (eItem (eVar 0) (eItem (eVar 1) (eDat (.int 0))))) (sSeq (sAssign 5 (eList [(eItem (eVar 1) (eDat (.int 0)))])) (sSeq (sForR (eFn1 (fun x => (lenD x).map fun i => (.int i, false)) (eVar 4)) (tName 6) riB) (sSeq (sRet (eFn1 tupD (eVar 5))) sNil))))) := rfl
noncomputable def rS (T R : PyData) (w : List (Int × Int)) (e : Int) (K : Str) (parts : List PyData) (s6 s7 : Slot) (ts : List Int) : St := ⟨[.sh T, .sh R, .sh (.dict (encW w)), .sh (.int e), .sh (.str K), .own (.list parts), s6, s7], ts⟩
inductive RiO (L : Out SRes) (o : Option PyData) (T R : PyData) (w : List (Int × Int)) (e : Int) (K : Str) (parts : List PyData) (j : Nat) (ts : List Int) : Prop
  | fail (hn : o = none) (ev : L = .raise)
  | ok (y : PyData) (s7' : Slot) (hn : o = some y) (h7 : s7'.canPut = true) (ev : L = .ok .next (rS T R w e K (parts ++ [y]) (.sh (.int j)) s7' ts))
theorem ri_ev {w : List (Int × Int)} {e : Int} {T R : PyData} {K : Str} {j : Nat} {x : PyData} {k : Str} {o : Option PyData} {parts : List PyData} {s7 : Slot} {ts : List Int} (hx : itemD R (.int (j + 1)) = some x) (hk : itemD (.str K) (.int j) = some (.str k)) (V : Val w e k x o) (hl : parts.length ≤ 100) (h7 : s7.canPut = true) :
    RiO (riB (rS T R w e K parts (.sh (.int j)) s7 ts)) o T R w e K parts j ts := by
  have hl9 : parts.length ≤ 9999 := by omega
  have e1 : sAssign 7 (eItem (eVar 1) (eOp2 (binD .Add) (eVar 6) (eDat (.int 1)))) (rS T R w e K parts (.sh (.int j)) s7 ts) = .ok .next (rS T R w e K parts (.sh (.int j)) (.sh x) ts) := by
    simp [rS, hx, h7]
  have kd : dp 8 (.str k) = true := by
    cases V with
    | lab hk0 _ => subst hk0; kernel_rfl
    | tab hk0 _ _ => rcases hk0 with rfl | rfl <;> kernel_rfl
    | oth hk0 => rcases hk0 with rfl | rfl | rfl | rfl <;> kernel_rfl
  have e2 : ∀ k2 : Str, dp 8 (.str k2) = true → tst2 (cmpD .Eq) (eItem (eVar 4) (eVar 6)) (eDat (.str k2)) (rS T R w e K parts (.sh (.int j)) (.sh x) ts) = .ok (decide (k = k2)) (rS T R w e K parts (.sh (.int j)) (.sh x) ts) := by
    intro k2 kd2
    simp [rS, hk, cmp_eq kd kd2]
  have e3 : ∀ y : PyData, sSeq (sMeth 5 appendD [(eVar 7)]) sNil (rS T R w e K parts (.sh (.int j)) (.sh y) ts) = .ok .next (rS T R w e K (parts ++ [y]) (.sh (.int j)) (.sh y) ts) := by
    intro y
    simp [rS, app_l, hl9]
  have e3o : ∀ y : PyData, sSeq (sMeth 5 appendD [(eVar 7)]) sNil (rS T R w e K parts (.sh (.int j)) (.own y) ts) = .ok .next (rS T R w e K (parts ++ [y]) (.sh (.int j)) (.sh y) ts) := by
    intro y
    simp [rS, app_l, hl9]
  cases V with
  | lab hk0 hlo =>
    rename_i l
    subst hk0
    have hr := resl_ev (w := w) (e := e) hlo ts
    cases hrr : res w e l with
    | none =>
      rw [hrr] at hr
      refine .fail rfl (seqN e1 (seqX (thenT (e2 _ (by kernel_rfl)) (seqX ?_))))
      simp [rS, hr]
    | some a =>
      rw [hrr] at hr
      refine .ok (.int a) (.sh (.int a)) rfl rfl (seqN e1 (seqN (thenT (e2 _ (by kernel_rfl)) (seq1 ?_)) (e3 _)))
      simp [rS, hr]
  | tab hk0 hp hlp =>
    rename_i ps b
    have hr := rt_ev (w := w) (e := e) hp hlp ts
    have et : tOr [(tst2 (cmpD .Eq) (eItem (eVar 4) (eVar 6)) (eDat (.str "T"))), (tst2 (cmpD .Eq) (eItem (eVar 4) (eVar 6)) (eDat (.str "U")))] (rS T R w e K parts (.sh (.int j)) (.sh (.tuple (ps.map pe))) ts) = .ok true (rS T R w e K parts (.sh (.int j)) (.sh (.tuple (ps.map pe))) ts) := by
      rcases hk0 with rfl | rfl
      · exact or1 (e2 _ (by kernel_rfl))
      · exact or2 (e2 _ (by kernel_rfl)) (or1 (e2 _ (by kernel_rfl)))
    have el := e2 "L" (by kernel_rfl)
    rw [show decide (k = "L") = false by rcases hk0 with rfl | rfl <;> decide] at el
    cases hrr : rtab w e ps [] with
    | none =>
      rw [hrr] at hr
      refine .fail rfl (seqN e1 (seqX (elseF el (seqX (thenT et (seqX ?_))))))
      simp [rS, hr]
    | some a =>
      rw [hrr] at hr
      refine .ok (.dict a) (.sh (.dict a)) rfl rfl (seqN e1 (seqN (elseF el (seq1 (thenT et (seq1 ?_)))) (e3o _)))
      simp [rS, hr]
  | oth hk0 =>
    refine .ok x (.sh x) rfl rfl ?_
    have no : ∀ k2, (k2 = ("L" : Str) ∨ k2 = "T" ∨ k2 = "U") → decide (k = k2) = false := by
      intro k2 h
      rcases hk0 with rfl | rfl | rfl | rfl <;> rcases h with rfl | rfl | rfl <;> decide
    have f : ∀ k2, (k2 = ("L" : Str) ∨ k2 = "T" ∨ k2 = "U") → dp 8 (.str k2) = true → tst2 (cmpD .Eq) (eItem (eVar 4) (eVar 6)) (eDat (.str k2)) (rS T R w e K parts (.sh (.int j)) (.sh x) ts) = .ok false (rS T R w e K parts (.sh (.int j)) (.sh x) ts) := fun k2 h d => by rw [e2 k2 d, no k2 h]
    exact seqN e1 (seqN (elseF (f _ (.inl rfl) (by kernel_rfl)) (seq1 (elseF (or2 (f _ (.inr (.inl rfl)) (by kernel_rfl)) (or2 (f _ (.inr (.inr rfl)) (by kernel_rfl)) rfl)) rfl))) (e3 _))
noncomputable def allSome : List (Option PyData) → Option (List PyData)
  | [] => some []
  | none :: _ => none
  | some x :: r => (allSome r).map (x :: ·)
inductive Ins (w : List (Int × Int)) (e : Int) (R : PyData) (K : Str) : Nat → List (Option PyData) → Prop
  | nil {j : Nat} : Ins w e R K j []
  | cons {j : Nat} {x : PyData} {k : Str} {o : Option PyData} {os : List (Option PyData)} (hx : itemD R (.int (j + 1)) = some x) (hk : itemD (.str K) (.int j) = some (.str k)) (V : Val w e k x o) (r : Ins w e R K (j + 1) os) : Ins w e R K j (o :: os)
inductive RiL (L : Out SRes) (o : Option (List PyData)) (T R : PyData) (w : List (Int × Int)) (e : Int) (K : Str) (parts : List PyData) (ts : List Int) : Prop
  | fail (hn : o = none) (ev : L = .raise)
  | ok (l : List PyData) (s6' s7' : Slot) (hn : o = some l) (ev : L = .ok .next (rS T R w e K (parts ++ l) s6' s7' ts))
theorem ri_loop {w : List (Int × Int)} {e : Int} {T R : PyData} {K : Str} : ∀ {os : List (Option PyData)} {j : Nat}, Ins w e R K j os → ∀ (parts : List PyData), parts.length + os.length ≤ 100 → ∀ {s6 s7 : Slot} {ts : List Int}, s6.canPut = true → s7.canPut = true →
    RiL (sLoop (tName 6) riB ((List.range' j os.length).map fun (k : Nat) => PyData.int k) (rS T R w e K parts s6 s7 ts)) (allSome os) T R w e K parts ts := by
  intro os j H
  induction H with
  | nil => intro parts hl s6 s7 ts h6 h7; exact .ok [] s6 s7 rfl (by rw [List.append_nil]; rfl)
  | @cons j x k o os hx hk V r ih =>
    intro parts hl s6 s7 ts h6 h7
    simp only [List.length_cons] at hl
    have step : sLoop (tName 6) riB ((List.range' j (o :: os).length).map fun (k : Nat) => PyData.int k) (rS T R w e K parts s6 s7 ts) = (riB (rS T R w e K parts (.sh (.int j)) s7 ts)).bind (loopK2 (tName 6) riB ((List.range' (j + 1) os.length).map fun (k : Nat) => PyData.int k)) := by rw [List.length_cons, List.range'_succ, List.map_cons]; exact loop_name rfl h6 rfl
    rw [step]
    rcases ri_ev (T := T) (R := R) (K := K) (parts := parts) (s7 := s7) (ts := ts) hx hk V (by omega) h7 with ⟨rfl, e0⟩ | ⟨y, s7', rfl, h7', e0⟩
    · rw [e0]
      exact .fail rfl rfl
    · rw [e0]
      simp only [zA, zB, zC, zD, zE, zF, zG, zH, zI, zJ, zK, zL, zM, zN, zO, zP, zQ, zR, zS, zT, zU, zV, zW, zX, uK, uL, uM, uN, uO, uP, uQ, uR, uS, uT, uU, uV, uW, uX, uY, uZ, jA, jB, jC, jD, jE, jF, jG, jH, jI, jJ, jK, jL, jM, jN, jO, jP, jQ, jR, jS, jT, jU, jV, jW, allSome]
      rcases ih (parts ++ [y]) (by simp only [List.length_append, List.length_cons, List.length_nil]; omega) (s6 := .sh (.int j)) (ts := ts) rfl h7' with ⟨h1, e1⟩ | ⟨l, s6', s7'', h1, e1⟩
      · rw [h1]
        exact .fail rfl e1
      · rw [h1, e1]
        exact .ok (y :: l) s6' s7'' rfl (by rw [List.append_assoc]; rfl)
theorem ri_gen {P : Params} {w : List (Int × Int)} {e : Int} {nm ks : Str} {ops : List PyData} {os : List (Option PyData)} {ts : List Int} (hc : ∀ ts, fn_check_row [.sh (.dict (encS (shp P))), .sh (.tuple (.str nm :: ops)), .sh (.bool false)] ts = .ok .none false ts) (hl : lookS nm (shp P) = some ks) (hk : lenD (.str ks) = some (os.length : Int)) (hb : os.length ≤ 4) (I : Ins w e (.tuple (.str nm :: ops)) ks 0 os) :
    fn_resolve_instruction [.sh (.dict (encS (shp P))), .sh (.tuple (.str nm :: ops)), .sh (.dict (encW w)), .sh (.int e)] ts = match allSome os with | none => .raise | some l => .ok (.tuple (.str nm :: l)) false ts := by
  have hr := List.range_eq_range' (n := os.length)
  have hbl : (0 : Int) ≤ os.length ∧ (os.length : Int) ≤ 100000 := by omega
  have hb2 : os.length ≤ 100000 := by omega
  have hal : ∀ {os : List (Option PyData)} {l : List PyData}, allSome os = some l → l.length = os.length := by
    intro os
    induction os with
    | nil => intro l h; simp only [allSome, Option.some.injEq] at h; subst h; rfl
    | cons o os ih =>
      intro l h
      cases o with
      | none => cases h
      | some x =>
        simp only [allSome] at h
        obtain ⟨l', h1, h2⟩ := Option.map_eq_some_iff.mp h
        subst h2
        simp only [List.length_cons, ih h1]
  simp only [fn_resolve_instruction, ri_is]
  rcases ri_loop (T := .dict (encS (shp P))) I [.str nm] (by simp only [List.length_cons, List.length_nil]; omega) (s6 := .unset) (s7 := .unset) (ts := ts) rfl rfl with ⟨h1, e1⟩ | ⟨l, s6, s7, h1, e1⟩
  · simp only [rS] at e1
    rw [h1]
    simp [hc, shp_item, hl, hk, hr, hbl, hb2, e1]
  · have hll : l.length ≤ 99999 := by have := hal h1; omega
    rw [h1]
    simp only [rS, List.cons_append, List.nil_append] at e1
    simp [hc, shp_item, hl, hk, hr, hbl, hb2, e1, hll]
end Mine
namespace Mine
open PySem PySem.W PySem.Calls PyProof.Rows

theorem con_kok {ps : List ((Int × Int) × Int)} (h : ∀ p ∈ ps, (p.1.1 = 4 ∨ p.1.1 = 5) ∧ LOk p.2) : ∀ p ∈ ps.map cpair, kok true p.1 = true ∧ LOk p.2 := by
  intro p hp
  obtain ⟨q, hq, rfl⟩ := List.mem_map.mp hp
  exact ⟨rfl, (h q hq).2⟩
theorem str_kok {ps : List (Int × Int)} (h : ∀ p ∈ ps, 0 ≤ p.1 ∧ LOk p.2) : ∀ p ∈ ps.map spair, kok false p.1 = true ∧ LOk p.2 := by
  intro p hp
  obtain ⟨q, hq, rfl⟩ := List.mem_map.mp hp
  exact ⟨rfl, (h q hq).2⟩
theorem ri_row {P : Params} {w : List (Int × Int)} {e : Int} {r : Row} (h : r.Ok) (hl : r.looksLab = false) (ts : List Int) :
    fn_resolve_instruction [.sh (.dict (encS (shp P))), .sh r.enc, .sh (.dict (encW w)), .sh (.int e)] ts = match res1 w e r with | none => .raise | some x => .ok x false ts := by
  by_cases hb : r.isBad = true
  · cases r with
    | bad x b =>
      simp only [Row.looksLab] at hl
      subst hl
      have hc := fun ts => check_badP (P := P) ts (x, false) h rfl
      simp only at hc
      simp only [fn_resolve_instruction, ri_is, Row.enc, res1]
      simp [hc]
    | _ => cases hb
  · have hb' : r.isBad = false := by simpa using hb
    have hlb : r.isLab = false := by rw [← looks_lab hb']; exact hl
    have hc := check_good (P := P) h hb' hlb
    cases r with
    | bad x b => cases hb'
    | lab k => cases hlb
    | try_ l n =>
      simp only [Row.enc] at hc ⊢
      rw [ri_gen (os := [(res w e l).map .int, some (.int n)]) hc (shl6 P) (by rfl) (by simp) (.cons rfl KI.2.2.2.2.2.2.2.1 (.lab rfl h.1) (.cons rfl KI.2.2.2.2.2.2.2.2.1 (.oth (by simp)) .nil))]
      simp only [res1]
      cases res w e l <;> rfl
    | retry l =>
      simp only [Row.enc] at hc ⊢
      rw [ri_gen (os := [(res w e l).map .int]) hc (shl7 P) (by rfl) (by simp) (.cons rfl KI.2.2.2.2.2.2.2.2.2.1 (.lab rfl h) .nil)]
      simp only [res1]
      cases res w e l <;> rfl
    | trust l =>
      simp only [Row.enc] at hc ⊢
      rw [ri_gen (os := [(res w e l).map .int]) hc (shl8 P) (by rfl) (by simp) (.cons rfl KI.2.2.2.2.2.2.2.2.2.1 (.lab rfl h) .nil)]
      simp only [res1]
      cases res w e l <;> rfl
    | term a b c d =>
      simp only [Row.enc] at hc ⊢
      rw [ri_gen (os := [(res w e a).map .int, (res w e b).map .int, (res w e c).map .int, (res w e d).map .int]) hc (shl9 P) (by rfl) (by simp) (.cons rfl KI.2.2.2.2.2.2.2.2.2.2.1 (.lab rfl h.1) (.cons rfl KI.2.2.2.2.2.2.2.2.2.2.2.1 (.lab rfl h.2.1) (.cons rfl KI.2.2.2.2.2.2.2.2.2.2.2.2.1 (.lab rfl h.2.2.1) (.cons rfl KI.2.2.2.2.2.2.2.2.2.2.2.2.2.1 (.lab rfl h.2.2.2) .nil))))]
      simp only [res1]
      cases res w e a with | none => rfl | some _ => ?_
      cases res w e b with | none => rfl | some _ => ?_
      cases res w e c with | none => rfl | some _ => ?_
      cases res w e d <;> rfl
    | con ps l =>
      have hmap : (ps.map cpair).map pe = ps.map ckey := by rw [List.map_map]; rfl
      have hpl := h.2.1
      simp only [Row.enc] at hc ⊢
      rw [ri_gen (os := [(rtab w e (ps.map cpair) []).map .dict, (res w e l).map .int]) hc (shl10 P) (by rfl) (by simp) (.cons (x := .tuple ((ps.map cpair).map pe)) (by rw [hmap]; rfl) KI.2.2.2.2.2.2.2.2.2.2.2.2.2.2.1 (.tab (.inl rfl) (con_kok h.2.2) (by rw [List.length_map]; omega)) (.cons rfl KI.2.2.2.2.2.2.2.2.2.2.2.2.2.2.2.1 (.lab rfl h.1) .nil))]
      simp only [res1]
      cases rtab w e (ps.map cpair) [] with | none => rfl | some _ => ?_
      cases res w e l <;> rfl
    | str ps l =>
      have hmap : (ps.map spair).map pe = ps.map skey := by rw [List.map_map]; rfl
      have hpl := h.2.1
      simp only [Row.enc] at hc ⊢
      rw [ri_gen (os := [(rtab w e (ps.map spair) []).map .dict, (res w e l).map .int]) hc (shl11 P) (by rfl) (by simp) (.cons (x := .tuple ((ps.map spair).map pe)) (by rw [hmap]; rfl) KI.2.2.2.2.2.2.2.2.2.2.2.2.2.2.2.2.1 (.tab (.inr rfl) (str_kok h.2.2) (by rw [List.length_map]; omega)) (.cons rfl KI.2.2.2.2.2.2.2.2.2.2.2.2.2.2.2.2.2.1 (.lab rfl h.1) .nil))]
      simp only [res1]
      cases rtab w e (ps.map spair) [] with | none => rfl | some _ => ?_
      cases res w e l <;> rfl
    | call a b =>
      simp only [Row.enc] at hc ⊢
      rw [ri_gen (os := [some (.int a), some (.int b)]) hc (shl0 P) (by rfl) (by simp) (.cons rfl KI.1 (.oth (by simp)) (.cons rfl KI.2.1 (.oth (by simp)) .nil))]
      rfl
    | getc v m =>
      simp only [Row.enc] at hc ⊢
      rw [ri_gen (os := [some (.tuple [.int 5, .int v]), some (.tuple [.str "x", .int m])]) hc (shl12 P) (by rfl) (by simp) (.cons rfl KI.2.2.2.2.2.2.2.2.2.2.2.2.2.2.2.2.2.2.1 (.oth (by simp)) (.cons rfl KI.2.2.2.2.2.2.2.2.2.2.2.2.2.2.2.2.2.2.2 (.oth (by simp)) .nil))]
      rfl
    | proc =>
      simp only [Row.enc] at hc ⊢
      rw [ri_gen (os := []) hc (shl13 P) (by rfl) (by decide) .nil]
      rfl

noncomputable def twiceJ : EF := (evJoin Str.empty [(eDat (.str "label ")), (eOp1 fmtD (eItem (eVar 4) (eDat (.int 1)))), (eDat (.str " stands twice"))])
noncomputable def laB : SF := (sSeq (sIf (tOf (eCall fn_is_label_row [(eVar 4)])) (sSeq (sIf (tOr [(tst2 (cmpD .NotEq) (eFn1 (fun x => (lenD x).map fun i => (.int i, false)) (eVar 4)) (eDat (.int 2))), (tNot (tOf (eCall fn_is_whole [(eItem (eVar 4) (eDat (.int 1)))]))), (tst2 (cmpD .Lt) (eItem (eVar 4) (eDat (.int 1))) (eDat (.int 0)))]) (sSeq (sRaise (eDat (.str "wrong label"))) sNil) sNil) (sSeq (sIf (tst2 (cmpD .In) (eItem (eVar 4) (eDat (.int 1))) (eVar 2)) (sSeq (sRaise twiceJ) sNil) sNil) (sSeq (sSet 2 (eItem (eVar 4) (eDat (.int 1))) (eVar 3)) sNil))) (sSeq (sAug 3 (eDat (.int 1))) sNil)) sNil)
theorem la_is : F_label_addresses = (sSeq (sAssign 2 (eDisp (some []))) (sSeq (sAssign 3 (eVar 1)) (sSeq (sFor (eVar 0) (tName 4) laB) (sSeq (sRet (eVar 2)) sNil)))) := rfl
theorem laB_bad {a0 a1 a2 a3 : Slot} (ts : List Int) : ∀ p ∈ badP, p.2 = true → laB ⟨[a0, a1, a2, a3, .sh p.1], ts⟩ = .raise := by
  have hb := islab_bad ts
  simp only [badP, List.forall_mem_cons] at hb ⊢
  refine ⟨?_, ?_, ?_, ?_, ?_, ?_, ?_, ?_, ?_, ?_, ?_, ?_, ?_, ?_, ?_, ?_, fun _ h => by cases h⟩ <;> intro hf <;> first | exact absurd hf (by decide) | kernel_rfl
theorem laB_ev {r : Row} (h : r.Ok) {a0 a1 : Slot} {w : List (Int × Int)} (hw : w.length ≤ 1000) {a : Int} {ts : List Int} :
    laB ⟨[a0, a1, .own (.dict (encW w)), .sh (.int a), .sh r.enc], ts⟩ = if r.looksLab then (match r.key with
      | some k => if (look k w).isSome then .raise else .ok .next ⟨[a0, a1, .own (.dict (encW (w ++ [(k, a)]))), .sh (.int a), .sh r.enc], ts⟩
      | none => .raise) else .ok .next ⟨[a0, a1, .own (.dict (encW w)), .sh (.int (a + 1)), .sh r.enc], ts⟩ := by
  have hil := islab_ev h ts
  by_cases hl : r.looksLab = true
  · rw [if_pos hl]
    cases r with
    | bad x b =>
      simp only [Row.looksLab] at hl
      subst hl
      exact laB_bad ts (x, true) h rfl
    | lab k =>
      have hk : 0 ≤ k := h.1
      have hk2 : ¬ k < 0 := by omega
      have hg := dget_w k w
      have hko := keys_w k w
      have hlen := len_w w
      have hl9 : (encW w).length ≤ 9999 := by rw [hlen]; omega
      simp only [Row.key]
      simp only [Row.enc, Row.looksLab] at hil ⊢
      cases hlk : look k w with
      | some b =>
        rw [hlk] at hg
        obtain ⟨x, j1⟩ := join3 (a := "label ") (b := " stands twice") (by simp [SL]) (by simp [SL]) (F := (eItem (eVar 4) (eDat (.int 1)))) (st := ⟨[a0, a1, .own (.dict (encW w)), .sh (.int a), .sh (.tuple [.str "label", .int k])], ts⟩) (av := .dat (.int k) false) (i := k) (by simp) rfl ⟨by have := h.1; omega, h.2⟩
        have j2 : twiceJ ⟨[a0, a1, .own (.dict (encW w)), .sh (.int a), .sh (.tuple [.str "label", .int k])], ts⟩ = _ := j1
        simp [laB, cmp_ne, whole_int, hil, hk2, cmp_inD hko, hg, j2]
      | none =>
        rw [hlk] at hg
        have hs := dset_w k a w hlk
        simp [laB, cmp_ne, whole_int, hil, hk2, cmp_inD hko, hg, hko, hl9, hs]
    | _ => cases hl
  · have hl' : r.looksLab = false := by simpa using hl
    rw [hl'] at hil ⊢
    simp [laB, hil]
theorem la_loop : ∀ (rs : List Row), (∀ r ∈ rs, r.Ok) → ∀ (w : List (Int × Int)) (a : Int), w.length + rs.length ≤ 1000 → ∀ {a0 a1 s4 : Slot} {ts : List Int}, s4.canPut = true →
    (la rs w a = none ∧ sLoop (tName 4) laB (rs.map Row.enc) ⟨[a0, a1, .own (.dict (encW w)), .sh (.int a), s4], ts⟩ = .raise) ∨
    (∃ w' a' s4', la rs w a = some w' ∧ sLoop (tName 4) laB (rs.map Row.enc) ⟨[a0, a1, .own (.dict (encW w)), .sh (.int a), s4], ts⟩ = .ok .next ⟨[a0, a1, .own (.dict (encW w')), .sh (.int a'), s4'], ts⟩) := by
  intro x_
  induction x_ with
  | nil =>
    intro hr w a hl a0 a1 s4 ts h4
    exact .inr ⟨w, a, s4, rfl, rfl⟩
  | cons r rs ih =>
    intro hr w a hl a0 a1 s4 ts h4
    simp only [List.length_cons] at hl
    have e0 := laB_ev (hr r List.mem_cons_self) (a0 := a0) (a1 := a1) (w := w) (a := a) (ts := ts) (by omega)
    have ih := fun w a hl => ih (fun x hx => hr x (List.mem_cons_of_mem _ hx)) w a hl (a0 := a0) (a1 := a1) (s4 := .sh r.enc) (ts := ts) rfl
    have step : sLoop (tName 4) laB ((r :: rs).map Row.enc) ⟨[a0, a1, .own (.dict (encW w)), .sh (.int a), s4], ts⟩ = (laB ⟨[a0, a1, .own (.dict (encW w)), .sh (.int a), .sh r.enc], ts⟩).bind (loopK2 (tName 4) laB (rs.map Row.enc)) := loop_name rfl h4 rfl
    rw [step, e0]
    simp only [la]
    by_cases h1 : r.looksLab = true
    · simp only [if_pos h1]
      cases hk : r.key with
      | none => exact .inl ⟨rfl, rfl⟩
      | some k =>
        simp only
        by_cases h2 : (look k w).isSome = true
        · simp only [if_pos h2]
          exact .inl ⟨trivial, rfl⟩
        · simp only [if_neg h2]
          exact ih _ _ (by simp only [List.length_append, List.length_cons, List.length_nil]; omega)
    · simp only [if_neg h1]
      exact ih _ _ (by omega)
theorem la_ev {rs : List Row} (hr : ∀ r ∈ rs, r.Ok) (hl : rs.length ≤ 900) (base : Int) (ts : List Int) : fn_label_addresses [.sh (.list (rs.map Row.enc)), .sh (.int base)] ts = match la rs [] base with | none => .raise | some w => .ok (.dict (encW w)) true ts := by
  simp only [fn_label_addresses, la_is]
  rcases la_loop rs hr [] base (by simp only [List.length_nil]; omega) (a0 := .sh (.list (rs.map Row.enc))) (a1 := .sh (.int base)) (s4 := .unset) (ts := ts) rfl with ⟨h1, e1⟩ | ⟨w, a, s4, h1, e1⟩
  · rw [h1]
    simp only [encW, List.map_nil] at e1
    simp [eDisp, e1]
  · rw [h1]
    have e2 : encW [] = [] := rfl
    rw [e2] at e1
    simp [eDisp, e1]

noncomputable def real (rs : List Row) : List Row := rs.filter fun r => !r.looksLab
theorem nreal_len : ∀ rs : List Row, nreal rs = (real rs).length := by
  intro x_
  induction x_ with
  | nil =>
    exact rfl
  | cons r rs ih =>
    have ih := ih
    unfold real at ih ⊢
    simp only [nreal, List.filter_cons]
    cases r.looksLab
    · simp only [Bool.not_false, if_true, Bool.false_eq_true, if_false, List.length_cons, ih]; omega
    · simp only [Bool.not_true, Bool.false_eq_true, if_false, if_true, ih]
theorem resAll_real (w : List (Int × Int)) (e : Int) : ∀ rs : List Row, resAll w e (real rs) = resAll w e rs := by
  intro x_
  induction x_ with
  | nil =>
    exact rfl
  | cons r rs ih =>
    have ih := ih
    unfold real at ih ⊢
    simp only [resAll, List.filter_cons]
    cases h : r.looksLab
    · simp only [Bool.not_false, if_true, Bool.false_eq_true, if_false, resAll, h, ih]
    · simp only [Bool.not_true, Bool.false_eq_true, if_false, if_true, ih]
theorem real_loop : ∀ (rs : List Row), (∀ r ∈ rs, r.Ok) → ∀ (acc : List Row), acc.length + rs.length ≤ 1000 → ∀ {s0 : Slot} {ts : List Int}, s0.canPut = true →
    ∃ st', cLoop (tName 0) (tNot (tOf (eCall fn_is_label_row [(eVar 0)]))) (eVar 0) (rs.map Row.enc) (acc.map Row.enc) ⟨[s0], ts⟩ = .ok ((acc ++ real rs).map Row.enc) ⟨st', ts⟩ := by
  intro x_
  induction x_ with
  | nil =>
    intro hr acc hl s0 ts h0
    exact ⟨[s0], by simp [cLoop, real]⟩
  | cons r rs ih =>
    intro hr acc hl s0 ts h0
    simp only [List.length_cons] at hl
    have hil := islab_ev (hr r List.mem_cons_self) ts
    cases h : r.looksLab with
    | true =>
      obtain ⟨st', e⟩ := ih (fun x hx => hr x (List.mem_cons_of_mem _ hx)) acc (by omega) (s0 := .sh r.enc) (ts := ts) rfl
      refine ⟨st', ?_⟩
      rw [List.map_cons, cLoop_skip (st1 := ⟨[.sh r.enc], ts⟩) (st2 := ⟨[.sh r.enc], ts⟩), e]
      · simp only [real, List.filter_cons, h, Bool.not_true, Bool.false_eq_true, if_false]
      · simp only [zA, zB, zC, zD, zE, zF, zG, zH, zI, zJ, zK, zL, zM, zN, zO, zP, zQ, zR, zS, zT, zU, zV, zW, zX, wT, wU, wV, wW, wX, wY, wZ, vA, vB, vC, vD, vE, vF, vG, vH, vI, vJ, vK, vL, vM, vN, vO, vP, vQ, vR, vS, vT, vU, vV, vW, vX, vY, vZ, uA, uB, uC, uD, uE, uF, uG, uH, uI, uJ, uK, uL, uM, uN, uO, uP, uQ, uR, uS, uT, uU, uV, uW, uX, uY, uZ, jA, jB, jC, jD, jE, jF, jG, jH, jI, jJ, jK, jL, jM, jN, jO, jP, jQ, jR, jS, jT, jU, jV, jW, List.getElem?_cons_succ, List.getElem?_cons_zero, h0, if_true, List.set_cons_succ, List.set_cons_zero]
      · rw [h] at hil
        simp [hil]
    | false =>
      obtain ⟨st', e⟩ := ih (fun x hx => hr x (List.mem_cons_of_mem _ hx)) (acc ++ [r]) (by simp only [List.length_append, List.length_cons, List.length_nil]; omega) (s0 := .sh r.enc) (ts := ts) rfl
      refine ⟨st', ?_⟩
      rw [List.map_append, List.map_cons, List.map_nil] at e
      rw [List.map_cons, cLoop_cons (st1 := ⟨[.sh r.enc], ts⟩) (st2 := ⟨[.sh r.enc], ts⟩) (st3 := ⟨[.sh r.enc], ts⟩) (st4 := ⟨[.sh r.enc], ts⟩) (av := .var 0) (y := r.enc), e]
      · simp only [real, List.filter_cons, h, Bool.not_false, if_true, List.append_assoc, List.cons_append, List.nil_append]
      · simp only [zA, zB, zC, zD, zE, zF, zG, zH, zI, zJ, zK, zL, zM, zN, zO, zP, zQ, zR, zS, zT, zU, zV, zW, zX, wT, wU, wV, wW, wX, wY, wZ, vA, vB, vC, vD, vE, vF, vG, vH, vI, vJ, vK, vL, vM, vN, vO, vP, vQ, vR, vS, vT, vU, vV, vW, vX, vY, vZ, uA, uB, uC, uD, uE, uF, uG, uH, uI, uJ, uK, uL, uM, uN, uO, uP, uQ, uR, uS, uT, uU, uV, uW, uX, uY, uZ, jA, jB, jC, jD, jE, jF, jG, jH, jI, jJ, jK, jL, jM, jN, jO, jP, jQ, jR, jS, jT, jU, jV, jW, List.getElem?_cons_succ, List.getElem?_cons_zero, h0, if_true, List.set_cons_succ, List.set_cons_zero]
      · rw [h] at hil
        simp [hil]
      · rfl
      · rfl
      · simp only [List.length_map]; omega
theorem cLoop_raise (store : PyData → St → Option St) (Ft : BF) (Fe : EF) (x : PyData) (xs acc : List PyData) (st st1 st2 : St) (h1 : store x st = some st1) (h2 : Ft st1 = .ok true st2) (h3 : Fe st2 = .raise) :
    cLoop store Ft Fe (x :: xs) acc st = .raise := by
  simp only [cLoop, h1, h2, Out.bind, h3]
theorem out_comp {P : Params} {w : List (Int × Int)} {e : Int} : ∀ (rs : List Row), (∀ r ∈ rs, r.Ok ∧ r.looksLab = false) → ∀ (acc : List PyData), acc.length + rs.length ≤ 1000 → ∀ {s0 : Slot} {ts : List Int}, s0.canPut = true →
    (resAll w e rs = none ∧ cLoop (tName 0) (fun st => .ok true st) (eCall fn_resolve_instruction [(eVar 1), (eVar 0), (eVar 2), (eVar 3)]) (rs.map Row.enc) acc ⟨[s0, .sh (.dict (encS (shp P))), .sh (.dict (encW w)), .sh (.int e)], ts⟩ = .raise) ∨
    (∃ l st', resAll w e rs = some l ∧ cLoop (tName 0) (fun st => .ok true st) (eCall fn_resolve_instruction [(eVar 1), (eVar 0), (eVar 2), (eVar 3)]) (rs.map Row.enc) acc ⟨[s0, .sh (.dict (encS (shp P))), .sh (.dict (encW w)), .sh (.int e)], ts⟩ = .ok (acc ++ l) ⟨st', ts⟩) := by
  intro x_
  induction x_ with
  | nil =>
    intro hr acc hl s0 ts h0
    exact .inr ⟨[], [s0, .sh (.dict (encS (shp P))), .sh (.dict (encW w)), .sh (.int e)], rfl, by simp [cLoop]⟩
  | cons r rs ih =>
    intro hr acc hl s0 ts h0
    simp only [List.length_cons] at hl
    obtain ⟨ho, hlb⟩ := hr r List.mem_cons_self
    have hri := ri_row (P := P) (w := w) (e := e) ho hlb ts
    simp only [resAll, hlb, Bool.false_eq_true, if_false]
    have hst : tName 0 r.enc ⟨[s0, .sh (.dict (encS (shp P))), .sh (.dict (encW w)), .sh (.int e)], ts⟩ = some ⟨[.sh r.enc, .sh (.dict (encS (shp P))), .sh (.dict (encW w)), .sh (.int e)], ts⟩ := by
      simp only [zA, zB, zC, zD, zE, zF, zG, zH, zI, zJ, zK, zL, zM, zN, zO, zP, zQ, zR, zS, zT, zU, zV, zW, zX, wT, wU, wV, wW, wX, wY, wZ, vA, vB, vC, vD, vE, vF, vG, vH, vI, vJ, vK, vL, vM, vN, vO, vP, vQ, vR, vS, vT, vU, vV, vW, vX, vY, vZ, uA, uB, uC, uD, uE, uF, uG, uH, uI, uJ, uK, uL, uM, uN, uO, uP, uQ, uR, uS, uT, uU, uV, uW, uX, uY, uZ, jA, jB, jC, jD, jE, jF, jG, jH, jI, jJ, jK, jL, jM, jN, jO, jP, jQ, jR, jS, jT, jU, jV, jW, List.getElem?_cons_succ, List.getElem?_cons_zero, h0, if_true, List.set_cons_succ, List.set_cons_zero]
    cases h1 : res1 w e r with
    | none =>
      rw [h1] at hri
      refine .inl ⟨rfl, ?_⟩
      rw [List.map_cons, cLoop_raise (h1 := hst) (h2 := rfl)]
      simp [hri]
    | some x =>
      rw [h1] at hri
      have hfe : eCall fn_resolve_instruction [(eVar 1), (eVar 0), (eVar 2), (eVar 3)] ⟨[.sh r.enc, .sh (.dict (encS (shp P))), .sh (.dict (encW w)), .sh (.int e)], ts⟩ = .ok (.dat x false) ⟨[.sh r.enc, .sh (.dict (encS (shp P))), .sh (.dict (encW w)), .sh (.int e)], ts⟩ := by
        simp [hri]
      rw [List.map_cons, cLoop_cons (h1 := hst) (h2 := rfl) (h3 := hfe) (h4 := rfl) (h5 := by omega)]
      rcases ih (fun x hx => hr x (List.mem_cons_of_mem _ hx)) (acc ++ [x]) (by simp only [List.length_append, List.length_cons, List.length_nil]; omega) (s0 := .sh r.enc) (ts := ts) rfl with ⟨h2, e1⟩ | ⟨l, st', h2, e1⟩
      · rw [h2, e1]
        exact .inl ⟨rfl, rfl⟩
      · rw [h2, e1]
        exact .inr ⟨x :: l, st', rfl, by rw [List.append_assoc]; rfl⟩
theorem asm_spec {P : Params} {rs : List Row} (hr : ∀ r ∈ rs, r.Ok) (hl : rs.length ≤ 900) (base : Int) (ts : List Int) :
    fn_assemble P [.sh (.list (rs.map Row.enc)), .sh (.int base)] ts = match asm rs base with | none => .raise | some l => .ok (.list l) true ts := by
  have hla := la_ev hr hl base ts
  have hsh := shapes_ev P ts
  have hrl : (real rs).length ≤ 900 := by
    have : (real rs).length ≤ rs.length := List.length_filter_le _ _
    omega
  have hreal : ∀ r ∈ real rs, r.Ok ∧ r.looksLab = false := by
    intro r h
    have := List.mem_filter.mp h
    exact ⟨hr r this.1, by simpa using this.2⟩
  refine hide fun b_ hb_ => ?_
  obtain ⟨stc, ec⟩ := real_loop rs hr [] (by simp only [List.length_nil]; omega) (s0 := .unset) (ts := ts) rfl
  refine hb_ ?_
  simp only [List.map_nil, List.nil_append] at ec
  unfold asm
  cases h1 : la rs [] base with
  | none =>
    rw [h1] at hla
    simp only at hla
    simp [fn_assemble, F_assemble, cmpD, isD, isNoneK, hsh, hla]
  | some w =>
    rw [h1] at hla
    simp only at hla
    have hlr : (real rs).length ≤ 100000 := by omega
    have hac : ∀ t a, sAssignC 4 1 (eVar 0) [] (tName 0) (tNot (tOf (eCall fn_is_label_row [(eVar 0)]))) (eVar 0) ⟨[.sh (.list (rs.map Row.enc)), .sh (.int base), t, a, .unset, .unset], ts⟩ = .ok .next ⟨[.sh (.list (rs.map Row.enc)), .sh (.int base), t, a, .own (.list ((real rs).map Row.enc)), .unset], ts⟩ := by
      intro t a
      simp only [sAssignC, eComp, eVar, Out.bind, List.getElem?_cons_zero, AV.share, itemsD, compD, capSlots, List.replicate, List.append_nil]
      have ec' : cLoop (tName 0) (tNot (tOf (eCall fn_is_label_row [(eVar 0)]))) (fun st => eVar 0 st) (rs.map Row.enc) [] ⟨[.unset], ts⟩ = .ok ((real rs).map Row.enc) ⟨stc, ts⟩ := ec
      simp only [ec]
      rfl
    have hn := nreal_len rs
    simp only [Option.bind_some]
    rw [← resAll_real]
    have hret : ∀ A, (resAll w (base + nreal rs) (real rs) = none ∧ eComp 1 (eVar 4) [2, 3, 5] (tName 0) (fun st => .ok true st) (eCall fn_resolve_instruction [(eVar 1), (eVar 0), (eVar 2), (eVar 3)]) ⟨[A, .sh (.int base), .own (.dict (encS (shp P))), .own (.dict (encW w)), .own (.list ((real rs).map Row.enc)), .sh (.int (base + nreal rs))], ts⟩ = .raise) ∨
        (∃ l, resAll w (base + nreal rs) (real rs) = some l ∧ eComp 1 (eVar 4) [2, 3, 5] (tName 0) (fun st => .ok true st) (eCall fn_resolve_instruction [(eVar 1), (eVar 0), (eVar 2), (eVar 3)]) ⟨[A, .sh (.int base), .own (.dict (encS (shp P))), .own (.dict (encW w)), .own (.list ((real rs).map Row.enc)), .sh (.int (base + nreal rs))], ts⟩ = .ok (.dat (.list l) true) ⟨[A, .sh (.int base), .sh (.dict (encS (shp P))), .sh (.dict (encW w)), .sh (.list ((real rs).map Row.enc)), .sh (.int (base + nreal rs))], ts⟩) := by
      intro A
      rcases out_comp (P := P) (w := w) (e := base + nreal rs) (real rs) hreal [] (by simp only [List.length_nil]; omega) (s0 := .unset) (ts := ts) rfl with ⟨h2, e1⟩ | ⟨l, st', h2, e1⟩
      · refine .inl ⟨h2, ?_⟩
        simp [eComp, eVar, Out.bind, AV.share, itemsD, compD, capSlots, e1]
      · refine .inr ⟨l, h2, ?_⟩
        simp [eComp, eVar, Out.bind, AV.share, itemsD, compD, capSlots, e1]
    rw [hn] at hret ⊢
    rcases hret (.sh (.list (rs.map Row.enc))) with ⟨h2, e1⟩ | ⟨l, h2, e1⟩
    · rw [h2]
      simp [fn_assemble, F_assemble, cmpD, isD, isNoneK, hsh, hla, hac, hlr, e1]
    · rw [h2]
      simp [fn_assemble, F_assemble, cmpD, isD, isNoneK, hsh, hla, hac, hlr, e1]
end Mine
namespace Mine
open PySem PySem.W PySem.Calls PyProof.Rows

section
variable {prog : Program} {w w' : World} {A : Around} {E : Value → Shared → Prop} {s : Shared} {h : Heap} {B : Addr → Prop}

theorem Rd.world {v : Value} {x : PyData} (r : Rd w h B v x) : x.canLay0 = true → Rd w' h B v x :=
  (Rd.ind3 (P := fun v x => x.canLay0 = true → Rd w' h B v x) (P2 := fun v x => PyData.canLayAll0 x = true → RdAll w' h B v x) (P3 := fun _ _ => True) (fun _ => .none) (fun b _ => .bool b) (fun i t _ => .int i t) (fun x t _ => .str x t)
    (fun e n r k => .tuple e n (r k)) (fun e n r k => .list e n (r k)) (fun _ _ _ _ _ k => nomatch (show false = true from k)) (fun _ => .nil) (fun a b k => have k' := Bool.and_eq_true_iff.mp k; .cons (a k'.1) (b k'.2)) trivial (fun _ _ _ _ => trivial)).1 r
noncomputable def intV (x : PyData) : Bool := match x with | .int _ => true | _ => false
theorem lay_ints (ks : List Int) : PyData.canLayAll0 (ks.map .int) = true := by
  induction ks with
  | nil => rfl
  | cons k ks ih => simp only [List.map_cons, PyData.canLayAll0, PyData.canLay0, ih, Bool.and_self]
theorem RdEnts.world : ∀ {es : List DictEntry} {kvs : List (PyData × PyData)}, RdEnts w h B es kvs → (∀ p ∈ kvs, (∃ ks : List Int, p.1 = .tuple (ks.map .int)) ∧ intV p.2 = true) → RdEnts w' h B es kvs := by
  intro es kvs H
  refine RdEnts.ind (P := fun es kvs => (∀ p ∈ kvs, (∃ ks : List Int, p.1 = .tuple (ks.map .int)) ∧ intV p.2 = true) → RdEnts w' h B es kvs) (fun _ => .nil) ?_ H
  · intro _ _ _ _ dk dv _ e r1 r2 ih k
    obtain ⟨⟨ks, k1⟩, k2⟩ := k _ List.mem_cons_self
    simp only at k1 k2
    subst k1
    refine .cons (e.trans rfl) (r1.world (by simp only [PyData.canLay0]; exact lay_ints ks)) ?_ (ih fun p hp => k p (List.mem_cons_of_mem _ hp))
    cases dv <;> simp [intV] at k2
    exact r2.world (by rfl)
theorem ents_len {es : List DictEntry} {kvs : List (PyData × PyData)} : RdEnts w h B es kvs → es.length = kvs.length := RdEnts.ind (P := fun vs xs => vs.length = xs.length) rfl fun _ _ _ e => congrArg (· + 1) e
theorem ents_get {es : List DictEntry} {kvs : List (PyData × PyData)} (r : RdEnts w h B es kvs) (x : Nat) (e : DictEntry) (he : es[x]? = some e) : ∃ k d, kvs[x]? = some (k, d) ∧ e.hash = hkey w k ∧ Rd w h B e.key k ∧ Rd w h B e.val d := by
  have hi : x < kvs.length := by rw [← ents_len r]; exact (List.getElem?_eq_some_iff.mp he).1
  obtain ⟨u, hu, q⟩ := r.getE (List.getElem?_eq_getElem hi)
  cases he.symm.trans hu
  exact ⟨_, _, List.getElem?_eq_getElem hi, q⟩
theorem kvs_inj {kvs : List (PyData × PyData)} (nd : (kvs.map (·.1)).Nodup) {i j : Nat} {k d d' : PyData} (hi : kvs[i]? = some (k, d)) (hj : kvs[j]? = some (k, d')) : d = d' := by
  have hi' : (kvs.map (·.1))[i]? = some k := by rw [List.getElem?_map, hi]; rfl
  have hj' : (kvs.map (·.1))[j]? = some k := by rw [List.getElem?_map, hj]; rfl
  have : i = j := (List.getElem?_inj (List.getElem?_eq_some_iff.mp hi').1 nd).mp (hi'.trans hj'.symm)
  subst this
  rw [hi] at hj
  cases hj
  rfl
theorem rd_int {v : Value} {i : Int} (r : Rd w h B v (.int i)) : ∃ t, v = .int i t := by cases r; exact ⟨_, rfl⟩
theorem eq_intv {v u : Value} {d : PyData} (hd : intV d = true) (ra : Rd w h B v d) (rb : Rd w' h B u d) : SeqAt.EqAt A s v u true := by
  cases d <;> simp [intV] at hd
  cases ra
  cases rb
  have := SeqAt.EqAt.int_int (A := A) (s := s)
  rename_i i t t'
  have := this i t i t'
  rwa [beq_self_eq_true] at this

theorem samePairs_true {nm : String} {a b : Addr} {oa ob : Obj} {es es' : Array DictEntry} {ep ep' : Nat} {Q : Bool → Shared → Prop} (ha : (a == sysModules) = false) (hb : (b == sysModules) = false)
    (hoa : s.heap.get? a = some oa) (hda : oa.data = .dict es ep) (hob : s.heap.get? b = some ob) (hdb : ob.data = .dict es' ep') (hsz : es.size = es'.size)
    (hits : ∀ (x : Nat) (hx : x < es.size) (Q : Option Nat → Shared → Prop) (E : Value → Shared → Prop), (∀ (j : Nat) (hj : j < es'.size), SeqAt.EqAt A s es[x].val es'[j].val true → Q (some j) s) → wpAny (model prog w) A (dictFind b es[x].key es[x].hash) Q E s) (h : Q true s) :
    wpAny (model prog w) A (Builtin.Dict.samePairs nm a b) Q E s := by
  unfold Builtin.Dict.samePairs Builtin.Dict.showsAll
  rw [if_neg (show ¬ (a == sysModules) = true by rw [ha]; exact Bool.false_ne_true), if_neg (show ¬ (b == sysModules) = true by rw [hb]; exact Bool.false_ne_true)]
  refine wpAny_bind (wpAny_pure (wpAny_bind (wpAny_pure ?_)))
  refine wpAny_bind (wpAny_dictEntries hoa hda ?_)
  dsimp only
  refine wpAny_bind (wpAny_dictEntries hob hdb ?_)
  rw [if_neg (by rw [hsz]; simp)]
  refine wpAny_bind (wpAny_dictEpoch hoa hda ?_)
  refine wpAny_bind ?_
  rw [Std.Legacy.Range.forIn_eq_forIn_range']
  simp only [Std.Legacy.Range.size, Nat.sub_zero, Nat.add_sub_cancel, Nat.div_one]
  refine wpAny_forIn_list _
    (fun rest q s' => s' = s ∧ q = (none, ()) ∧ ∃ i, rest = List.range' i (es.size - i) ∧ i ≤ es.size)
    _ ?_ ?_ _ _ ⟨rfl, rfl, 0, by simp, Nat.zero_le _⟩
  · rintro x rest q s' ⟨rfl, rfl, i, hr, hi⟩
    have hlt : i < es.size := by
      rcases Nat.lt_or_ge i es.size with h | h
      · exact h
      · rw [Nat.sub_eq_zero_of_le h] at hr; simp at hr
    obtain ⟨rfl, hrest⟩ : x = i ∧ rest = List.range' (i + 1) (es.size - (i + 1)) := by
      have e : es.size - i = (es.size - (i + 1)) + 1 := by rw [Nat.sub_add_eq, Nat.sub_add_cancel (Nat.sub_pos_of_lt hlt)]
      rw [e, List.range'_succ] at hr
      injection hr with h1 h2
      exact ⟨h1, h2⟩
    refine wpAny_bind (wpAny_dictEntries hoa hda ?_)
    rw [Array.getElem?_eq_getElem hlt]
    show wpAny _ _ (holding [es[x].key, es[x].val] _ >>= _) _ _ _
    refine wpAny_bind (wpAny_holding (wpAny_bind (hits x hlt _ _ fun j hjlt he => ?_)))
    refine wpAny_bind (wpAny_dictEntries hob hdb ?_)
    rw [Array.getElem?_eq_getElem hjlt]
    refine wpAny_holding (he prog w _ _ ?_)
    show wpAny _ _ (if (!true) = true then _ else _) _ _ _
    rw [if_neg (by decide)]
    refine wpAny_bind (wpAny_dictEpoch hoa hda ?_)
    rw [if_neg (by simp)]
    exact wpAny_pure ⟨rfl, rfl, x + 1, hrest, hlt⟩
  · rintro q s' ⟨rfl, rfl, i, hr, hi⟩
    exact wpAny_pure h

noncomputable def GD (kvs : List (PyData × PyData)) : Prop := ((∀ p ∈ kvs, ∃ k, p.1 = .int k) ∨ (∀ p ∈ kvs, ∃ ks : List Int, p.1 = .tuple (ks.map .int))) ∧ ∀ p ∈ kvs, intV p.2 = true
theorem rc_dict {a b : Addr} {kvs : List (PyData × PyData)} {w0 : World} {B' : Addr → Prop} (g : GD kvs) (ra : Rd w0 s.heap B (.ref a) (.dict kvs)) (rb : Rd w0 s.heap B (.ref b) (.dict kvs)) (hu : A.units + 2 < cLine) : SeqAt.RcAt A s (.ref a) (.ref b) true := by
  intro prog w E Q hq
  cases ra with
  | @dict _ es n _ e1 na sa nd re =>
  cases rb with
  | @dict _ es' n' _ e2 nb sb nd' re' =>
  have hl1 := ents_len re
  have hl2 := ents_len re'
  simp only [Array.length_toList] at hl1 hl2
  refine wpAny_richCompare_same_room (op := .Eq) (T := "dict") ⟨_, e1, rfl⟩ ⟨_, e2, rfl⟩ PySem.F.slot_dict_eq (wpAny_call_entry PySem.F.slot_dict_eq ⟨_, e1, rfl⟩ PySem.F.entry_dict_eq ?_ (PySem.F.args_dict_eq_2 _ _)) (by omega)
  show wpAny _ _ (Builtin.Dict.dictSlotArgs "__eq__" ⟨[.ref a, .ref b], []⟩ >>= _) _ _ s
  refine wpAny_bind ?_
  unfold Builtin.Dict.dictSlotArgs
  refine wpAny_bind (wpAny_notOrdered_dict ⟨_, e1, rfl⟩ ?_)
  show wpAny _ _ (pure (Value.ref a, Value.ref b)) _ _ s
  refine wpAny_pure ?_
  refine wpAny_bind (wpAny_isInstance (T := "dict") ⟨_, e2, rfl⟩ PySem.F.sub_dict_dict ?_)
  simp only [Bool.not_true, Bool.false_eq_true, if_false]
  refine wpAny_bind (wpAny_pure (wpAny_bind (wpAny_pure ?_)))
  refine wpAny_bind (samePairs_true (sysne sa) (sysne sb) e1 rfl e2 rfl (by omega) ?_ ?_)
  · intro x hx Q' E' hQ'
    refine hide fun b_ hb_ => ?_
    obtain ⟨k, d, hk, hh, rk, rv⟩ := ents_get re x es[x] (by rw [Array.getElem?_toList]; exact Array.getElem?_eq_getElem hx)
    have hmem : (k, d) ∈ kvs := List.mem_of_getElem? hk
    have hd := g.2 _ hmem
    simp only at hd
    have fin : ∀ (j : Nat) (hj : j < es'.size) (k' d' : PyData), kvs[j]? = some (k', d') → k' = k → Rd w0 s.heap B es'[j].val d' → Q' (some j) s := by
      intro j hj k' d' e ek rd
      refine hide fun b_ hb_ => ?_
      subst ek
      have := kvs_inj nd hk e
      subst this
      refine hb_ ?_
      exact hQ' j hj (eq_intv hd rv rd)
    have hx' : x < es'.size := by omega
    obtain ⟨k2, d2, hk2, hh2, rk2, rv2⟩ := ents_get re' x es'[x] (by rw [Array.getElem?_toList]; exact Array.getElem?_eq_getElem hx')
    rw [hk] at hk2
    cases hk2
    refine hb_ ?_
    rcases g.1 with gi | gt
    · refine hide fun b_ hb_ => ?_
      obtain ⟨i, ei⟩ := gi _ hmem
      simp only at ei
      subst ei
      have hh' : es[x].hash = hashInt i := hh
      obtain ⟨t, et⟩ := rd_int rk
      refine hb_ ?_
      rw [hh', et]
      refine wpAny_dictFind_int e2 rfl (fun e he => ?_) ?_
      · refine hide fun b_ hb_ => ?_
        obtain ⟨j, hj, ej⟩ := Array.mem_iff_getElem.mp he
        obtain ⟨k3, d3, hk3, hh3, rk3, _⟩ := ents_get re' j e (by rw [Array.getElem?_toList, ← ej]; exact Array.getElem?_eq_getElem hj)
        obtain ⟨i3, ei3⟩ := gi _ (List.mem_of_getElem? hk3)
        simp only at ei3
        subst ei3
        obtain ⟨t3, et3⟩ := rd_int rk3
        refine hb_ ?_
        exact ⟨_, _, et3, hh3⟩
      · cases hj : es'.findIdx? fun e => Value.isInt i e.key with
        | none =>
          have := Array.findIdx?_eq_none_iff.mp hj es'[x] (Array.getElem_mem hx')
          obtain ⟨t2, et2⟩ := rd_int rk2
          rw [et2] at this
          simp [Value.isInt] at this
        | some j =>
          refine hide fun b_ hb_ => ?_
          obtain ⟨hjlt, hji, _⟩ := Array.findIdx?_eq_some_iff_getElem.mp hj
          obtain ⟨k3, d3, hk3, hh3, rk3, rv3⟩ := ents_get re' j es'[j] (by rw [Array.getElem?_toList]; exact Array.getElem?_eq_getElem hjlt)
          obtain ⟨i3, ei3⟩ := gi _ (List.mem_of_getElem? hk3)
          simp only at ei3
          subst ei3
          refine hb_ ?_
          refine fin j hjlt _ _ hk3 ?_ rv3
          obtain ⟨t3, et3⟩ := rd_int rk3
          rw [et3] at hji
          simp only [Value.isInt, beq_iff_eq] at hji
          rw [hji]
    · refine hide fun b_ hb_ => ?_
      obtain ⟨ks, ek⟩ := gt _ hmem
      simp only at ek
      subst ek
      have rew : RdEnts w s.heap B es'.toList kvs := re'.world fun p hp => ⟨gt p hp, g.2 p hp⟩
      obtain ⟨xs, p1, p2, p3, _, _, _⟩ := ents_tup (prog := prog) rew gt
      obtain ⟨a', ea, hi⟩ := tup_is (prog := prog) (rk.world (w' := w) (by simp only [PyData.canLay0]; exact lay_ints ks))
      refine hb_ ?_
      have hh' : es[x].hash = (tupleKind (intKind prog w)).hash ks := hh.trans (tup_hash (prog := prog) (w := w) ks)
      rw [hh', ea]
      have at_ : ∀ (j : Nat) (k' : List Int) (p : Addr × Value), xs[j]? = some (k', p) → ∃ d', kvs[j]? = some (.tuple (k'.map .int), d') := by
        intro j k' p hj
        have h1 : (xs.map fun p => PyData.tuple (p.1.map .int))[j]? = some (.tuple (k'.map .int)) := by rw [List.getElem?_map, hj]; rfl
        rw [← p3, List.getElem?_map] at h1
        obtain ⟨q, h2, h3⟩ := Option.map_eq_some_iff.mp h1
        exact ⟨q.2, by rw [h2, ← h3]⟩
      refine wpAny_dictFind_heap (knd := tupleKind (intKind prog w)) (show A.in1.units < cLine from by show A.units + 1 < cLine; omega) hi e2 rfl p1 (fun y hy => (p2 y hy).1) (nodup_tup p3 nd) (fun hn => ?_) fun j p hj => ?_
      · exfalso
        have hlx : x < xs.length := by
          have := congrArg List.length p3
          simp only [List.length_map] at this
          omega
        refine hide fun b_ hb_ => ?_
        obtain ⟨⟨k', p'⟩, hkp⟩ : ∃ y, xs[x]? = some y := ⟨_, List.getElem?_eq_getElem hlx⟩
        obtain ⟨d', hd'⟩ := at_ x k' p' hkp
        rw [hk] at hd'
        simp only [Option.some.injEq, Prod.mk.injEq] at hd'
        have := enc_tup_inj _ _ hd'.1
        subst this
        refine hb_ ?_
        exact hn x p' hkp
      · refine hide fun b_ hb_ => ?_
        obtain ⟨d', hd'⟩ := at_ j ks p hj
        have hjl : j < kvs.length := (List.getElem?_eq_some_iff.mp hd').1
        have hj' : j < es'.size := by omega
        obtain ⟨k3, d3, hk3, _, _, rv3⟩ := ents_get re' j es'[j] (by rw [Array.getElem?_toList]; exact Array.getElem?_eq_getElem hj')
        rw [hd'] at hk3
        cases hk3
        refine hb_ ?_
        exact fin j hj' _ _ hd' rfl rv3
  · refine wpAny_pure ⟨_, rfl, ?_, ?_⟩
    · exact fun x => nomatch x
    · simpa using hq

noncomputable def GI (x : PyData) : Prop := dp 4 x = true ∨ ∃ kvs, x = .dict kvs ∧ GD kvs
noncomputable def GR (x : PyData) : Prop := ∃ xs, x = .tuple xs ∧ ∀ y ∈ xs, GI y
variable {w0 : World}
theorem eq_item {v u : Value} {x : PyData} (g : GI x) (ra : Rd w0 s.heap B v x) (rb : Rd w0 s.heap B u x) (hu : A.units + 10 < cLine) : SeqAt.EqAt A s v u true := by
  rcases g with g | ⟨kvs, rfl, g⟩
  · simp only [dp, Bool.and_eq_true, decide_eq_true_eq] at g
    obtain ⟨as, r1⟩ := ra.reads g.1
    obtain ⟨bs, r2⟩ := rb.reads g.1
    have := SeqAt.eqAt_reads x x A s v u as bs r1 r2 g.1 g.1 (by omega)
    rwa [SeqAt.eqv_refl x g.1] at this
  · obtain ⟨a, rfl⟩ : ∃ a, v = .ref a := by cases ra; exact ⟨_, rfl⟩
    obtain ⟨b, rfl⟩ : ∃ b, u = .ref b := by cases rb; exact ⟨_, rfl⟩
    by_cases hab : a = b
    · subst hab; exact SeqAt.EqAt.same _
    · exact SeqAt.EqAt.of_refs hab (rc_dict (B' := B) g ra rb (by omega))
theorem RdAll.getD {vs : List Value} {xs : List PyData} (r : RdAll w0 h B vs xs) (j : Nat) (v : Value) (e : vs[j]? = some v) : ∃ x, xs[j]? = some x ∧ Rd w0 h B v x := r.getV e
theorem eq_row {v u : Value} {x : PyData} (g : GR x) (ra : Rd w0 s.heap B v x) (rb : Rd w0 s.heap B u x) (hu : A.units + 20 < cLine) : SeqAt.EqAt A s v u true := by
  obtain ⟨xs, rfl, g⟩ := g
  cases ra with
  | @tuple a vs n _ e1 na r1 =>
  cases rb with
  | @tuple b us m _ e2 nb r2 =>
  by_cases hab : a = b
  · subst hab; exact SeqAt.EqAt.same _
  · have l1 := r1.length
    have l2 := r2.length
    simp only [Array.length_toList] at l1 l2
    have := SeqAt.RcAt.tuples (A := A) (s := s) (e := fun _ => true) ⟨_, e1, rfl, _, rfl⟩ ⟨_, e2, rfl, _, rfl⟩ (by omega) fun j j1 j2 => by
      obtain ⟨x, hx, rx⟩ := r1.getD j vs[j] (by rw [Array.getElem?_toList]; exact Array.getElem?_eq_getElem j1)
      obtain ⟨y, hy, ry⟩ := r2.getD j us[j] (by rw [Array.getElem?_toList]; exact Array.getElem?_eq_getElem j2)
      rw [hx] at hy
      cases hy
      exact eq_item (g x (List.mem_of_getElem? hx)) rx ry (show A.units + 1 + 10 < cLine by omega)
    rw [show ((List.range (min vs.size us.size)).all (fun _ => true) && vs.size == us.size) = true by rw [l1, l2]; simp] at this
    exact SeqAt.EqAt.of_refs hab this
theorem eq_out {v u : Value} {xs : List PyData} (g : ∀ x ∈ xs, GR x) (ra : Rd w0 s.heap B v (.list xs)) (rb : Rd w0 s.heap B u (.list xs)) (hu : A.units + 30 < cLine) : SeqAt.RcAt A s v u true := by
  cases ra with
  | @list a vs n _ e1 na r1 =>
  cases rb with
  | @list b us m _ e2 nb r2 =>
  have l1 := r1.length
  have l2 := r2.length
  simp only [Array.length_toList] at l1 l2
  have := SeqAt.RcAt.lists (A := A) (s := s) (e := fun _ => true) ⟨_, e1, rfl, _, rfl⟩ ⟨_, e2, rfl, _, rfl⟩ (by omega) (by omega) fun j j1 j2 => by
    refine hide fun b_ hb_ => ?_
    obtain ⟨x, hx, rx⟩ := r1.getD j vs[j] (by rw [Array.getElem?_toList]; exact Array.getElem?_eq_getElem j1)
    obtain ⟨y, hy, ry⟩ := r2.getD j us[j] (by rw [Array.getElem?_toList]; exact Array.getElem?_eq_getElem j2)
    rw [hx] at hy
    cases hy
    refine hb_ ?_
    exact eq_row (g x (List.mem_of_getElem? hx)) rx ry (show A.units + 1 + 20 < cLine by omega)
  rw [show ((List.range vs.size).all (fun _ => true)) = true by simp] at this
  exact this
end

theorem dset_P {P : PyData → Prop} {k : PyData} {a : Int} (hk : P k) : ∀ {t : List (PyData × PyData)}, (∀ p ∈ t, P p.1 ∧ intV p.2 = true) → ∀ p ∈ dset k (.int a) t, P p.1 ∧ intV p.2 = true := by
  intro x_
  induction x_ with
  | nil =>
    intro ht p hp
    simp only [dset, List.mem_singleton] at hp
    subst hp
    exact ⟨hk, rfl⟩
  | cons h0_ t ih =>
    obtain ⟨qa, qv⟩ := h0_
    intro ht p hp
    simp only [dset] at hp
    split at hp
    · rcases List.mem_cons.mp hp with rfl | hp
      · exact ⟨(ht _ List.mem_cons_self).1, rfl⟩
      · exact ht p (List.mem_cons_of_mem _ hp)
    · rcases List.mem_cons.mp hp with rfl | hp
      · exact ht _ List.mem_cons_self
      · exact ih (fun p hp => ht p (List.mem_cons_of_mem _ hp)) p hp
theorem rtab_GD {w : List (Int × Int)} {e : Int} {P : PyData → Prop} : ∀ (ps : List (PyData × Int)) (t t' : List (PyData × PyData)), rtab w e ps t = some t' → (∀ p ∈ ps, P p.1) → (∀ p ∈ t, P p.1 ∧ intV p.2 = true) → ∀ p ∈ t', P p.1 ∧ intV p.2 = true := by
  intro x_
  induction x_ with
  | nil =>
    intro t t' h hp ht
    simp only [rtab, Option.some.injEq] at h; subst h; exact ht
  | cons h0_ ps ih =>
    obtain ⟨k, l⟩ := h0_
    intro t t' h hp ht
    simp only [rtab] at h
    split at h
    · cases h
    · split at h
      · cases h
      · rename_i a _
        refine ih _ t' h (fun p hp' => hp p (List.mem_cons_of_mem _ hp')) ?_
        have hk := hp _ List.mem_cons_self
        simp only at hk
        exact dset_P hk ht
theorem res1_GR {w : List (Int × Int)} {e : Int} {r : Row} {x : PyData} (h : res1 w e r = some x) : GR x := by
  have it : ∀ y, dp 4 y = true → GI y := fun y hy => .inl hy
  cases r with
  | lab k => cases h
  | bad y b => cases h
  | try_ l n =>
    obtain ⟨a, _, rfl⟩ := Option.map_eq_some_iff.mp h
    refine ⟨_, rfl, ?_⟩
    simp only [List.forall_mem_cons]
    exact ⟨it _ (by kernel_rfl), it _ (by kernel_rfl), it _ (by kernel_rfl), fun _ h => by cases h⟩
  | retry l =>
    obtain ⟨a, _, rfl⟩ := Option.map_eq_some_iff.mp h
    refine ⟨_, rfl, ?_⟩
    simp only [List.forall_mem_cons]
    exact ⟨it _ (by kernel_rfl), it _ (by kernel_rfl), fun _ h => by cases h⟩
  | trust l =>
    obtain ⟨a, _, rfl⟩ := Option.map_eq_some_iff.mp h
    refine ⟨_, rfl, ?_⟩
    simp only [List.forall_mem_cons]
    exact ⟨it _ (by kernel_rfl), it _ (by kernel_rfl), fun _ h => by cases h⟩
  | term a b c d =>
    obtain ⟨a', _, h⟩ := Option.bind_eq_some_iff.mp h
    obtain ⟨b', _, h⟩ := Option.bind_eq_some_iff.mp h
    obtain ⟨c', _, h⟩ := Option.bind_eq_some_iff.mp h
    obtain ⟨d', _, rfl⟩ := Option.map_eq_some_iff.mp h
    refine ⟨_, rfl, ?_⟩
    simp only [List.forall_mem_cons]
    exact ⟨it _ (by kernel_rfl), it _ (by kernel_rfl), it _ (by kernel_rfl), it _ (by kernel_rfl), it _ (by kernel_rfl), fun _ h => by cases h⟩
  | con ps l =>
    obtain ⟨t, ht, h⟩ := Option.bind_eq_some_iff.mp h
    obtain ⟨a, _, rfl⟩ := Option.map_eq_some_iff.mp h
    have hg := rtab_GD (P := fun k => ∃ ks : List Int, k = .tuple (ks.map .int)) _ _ _ ht (fun p hp => by
      obtain ⟨q, _, rfl⟩ := List.mem_map.mp hp
      exact ⟨[q.1.1, q.1.2], rfl⟩) (by simp)
    refine ⟨_, rfl, ?_⟩
    simp only [List.forall_mem_cons]
    exact ⟨it _ (by kernel_rfl), .inr ⟨t, rfl, .inr fun p hp => (hg p hp).1, fun p hp => (hg p hp).2⟩, it _ (by kernel_rfl), fun _ h => by cases h⟩
  | str ps l =>
    obtain ⟨t, ht, h⟩ := Option.bind_eq_some_iff.mp h
    obtain ⟨a, _, rfl⟩ := Option.map_eq_some_iff.mp h
    have hg := rtab_GD (P := fun k => ∃ i, k = PyData.int i) _ _ _ ht (fun p hp => by
      obtain ⟨q, _, rfl⟩ := List.mem_map.mp hp
      exact ⟨q.1, rfl⟩) (by simp)
    refine ⟨_, rfl, ?_⟩
    simp only [List.forall_mem_cons]
    exact ⟨it _ (by kernel_rfl), .inr ⟨t, rfl, .inl fun p hp => (hg p hp).1, fun p hp => (hg p hp).2⟩, it _ (by kernel_rfl), fun _ h => by cases h⟩
  | call a b =>
    simp only [res1, Option.some.injEq] at h
    subst h
    refine ⟨_, rfl, ?_⟩
    simp only [List.forall_mem_cons]
    exact ⟨it _ (by kernel_rfl), it _ (by kernel_rfl), it _ (by kernel_rfl), fun _ h => by cases h⟩
  | getc v m =>
    simp only [res1, Option.some.injEq] at h
    subst h
    refine ⟨_, rfl, ?_⟩
    simp only [List.forall_mem_cons]
    exact ⟨it _ (by kernel_rfl), it _ (by kernel_rfl), it _ (by kernel_rfl), fun _ h => by cases h⟩
  | proc =>
    simp only [res1, Option.some.injEq] at h
    subst h
    refine ⟨_, rfl, ?_⟩
    simp only [List.forall_mem_cons]
    exact ⟨it _ (by kernel_rfl), fun _ h => by cases h⟩
theorem resAll_GR {w : List (Int × Int)} {e : Int} : ∀ {rs : List Row} {l : List PyData}, resAll w e rs = some l → ∀ x ∈ l, GR x := by
  intro x_
  induction x_ with
  | nil =>
    intro l h
    simp only [resAll, Option.some.injEq] at h; subst h; simp
  | cons r rs ih =>
    intro l h
    simp only [resAll] at h
    split at h
    · exact ih h
    · obtain ⟨x, hx, h⟩ := Option.bind_eq_some_iff.mp h
      obtain ⟨l', hl, rfl⟩ := Option.map_eq_some_iff.mp h
      intro y hy
      rcases List.mem_cons.mp hy with rfl | hy
      · exact res1_GR hx
      · exact ih hl y hy
theorem asm_GR {rs : List Row} {base : Int} {l : List PyData} (h : asm rs base = some l) : ∀ x ∈ l, GR x := by
  obtain ⟨w, _, h⟩ := Option.bind_eq_some_iff.mp h
  exact resAll_GR h
end Mine
namespace Mine
open PySem PySem.W PySem.Calls PyProof.Rows

noncomputable abbrev lawSc : Scope := { kind := .function, names := [("script", .local), ("row", .local), ("rows", .local), ("base", .local), ("held", .local), ("due", .local), ("told", .local), ("_law_row", .globalImplicit), ("_law_block", .globalImplicit), ("_law_next", .globalImplicit), ("list", .globalImplicit), ("_law_due", .globalImplicit), ("assemble", .globalImplicit), ("LinkFault", .globalImplicit)], isGenerator := false, isCoroutine := false }
noncomputable def lawStmts (i : Nat) : List Stmt := match (pw0.main.body[34]? : Option Stmt) with
  | some (.FunctionDef _ _ body _ _ _ _ _ _ _) => body.drop i
  | _ => []
structure EnvOk (env : Env) (L : Addr) : Prop where
  scope : env.scope = lawSc
  globals : env.globals = mainGlobals
  builtins : env.builtins = builtinsNs
  locals : env.locals = L
  frame : env.frame = some L
  cells : env.cells = []
structure Base (mg mb : Str → Option Value) (H : Heap) (P : Params) : Prop where
  g : H.Ns mainGlobals mg
  b : H.Ns builtinsNs mb
  nolimit : H.NoLimit
  builtins : ∀ x : Str, x ≠ "__name__" → mb x = bootBuiltins x
  sys : ∃ o, H.get? sysModules = some o
  X : (kFrag P).In H
  codes : ∀ p ∈ kCodes, H.CodeRec (.ref p.1) p.2
theorem Base.keeps {mg mb : Str → Option Value} {H H' : Heap} {P : Params} (x : Base mg mb H P) (k : KeepAll H H') : Base mg mb H' P :=
  ⟨x.g.keeps k, x.b.keeps k, x.nolimit.keeps k, x.builtins, let ⟨o, e⟩ := x.sys; ⟨o, k _ _ e⟩, x.X.keeps k, fun p hp => (x.codes p hp).keeps k⟩
noncomputable abbrev gcOf (prog : Program) (w : World) (H : Heap) (mg mb : Str → Option Value) (I : Array Value → Nat → Prop) : GC := ⟨prog, w, H, mg, mb, 45, I⟩
theorem Base.law {prog : Program} {w : World} {mg mb : Str → Option Value} {H : Heap} {P : Params} {I : Array Value → Nat → Prop} (x : Base mg mb H P) (hI : ∀ (vs : Array Value) (n n' : Nat), I vs n → vs ≠ #[] → I (vs.eraseIdxIfInBounds (vs.size - 1)) n') : LawG (gcOf prog w H mg mb I) P :=
  ⟨⟨x.g, x.b, x.nolimit, x.builtins, x.sys, hI⟩, x.X, x.codes, rfl⟩

section
variable {prog : Program} {w : World} {mg mb : Str → Option Value} {H : Heap} {P : Params} {env : Env} {L τ : Addr} {A : Around} {E : Value → Shared → Prop} {s : Shared} {B : Addr → Prop}

theorem EnvOk.kof (x : EnvOk env L) {nm : Str} {k : NameKind} (h : lawSc.names.lookup nm = some k) : env.kindOf nm = some k := by
  unfold Env.kindOf
  rw [x.scope]
  exact h
theorem EnvOk.kind (x : EnvOk env L) : env.scope.kind = .function := by rw [x.scope]
theorem ldv {nm : Str} {m : Str → Option Value} {v : Value} {p : Pos} {M : Model} {Q : Value → Shared → Prop} (x : EnvOk env L) (hn : s.heap.Ns L m) (hv : m nm = some v) (hk : lawSc.names.lookup nm = some .local) (h : Q v s) (hd : (nm == ("__debug__" : Str)) = false := by decide) : wpAny M A (eval (.Name nm p) env) Q E s :=
  wpAny_Name (wpAny_loadName_local x.kind (x.kof hk) (by rw [x.locals]; exact hn) hv h) hd

theorem finish {m : Str → Option Value} {vr vh vd vt : Value} {rs : List Row} {Q : Flow → Shared → Prop} (x : EnvOk env L) (hu : A.units + 100 < cLine) (hn : s.heap.Ns L m) (h1 : m "rows" = some vr) (h2 : m "held" = some vh) (h3 : m "due" = some vd) (h4 : m "told" = some vt)
    (hrs : ∀ r ∈ rs, r.Ok) (r1 : Rd w s.heap B vr (.list (rs.map Row.enc))) (r2 : Rd w s.heap B vh (.list (rs.map Row.enc))) (r3 : (vd = .none ∧ vt = .none) ∨ ∃ l, (∀ x ∈ l, GR x) ∧ Rd w s.heap B vd (.list l) ∧ Rd w s.heap B vt (.list l)) (hQ : Q (.ret (.bool true)) s) :
    wpAny (model prog w) A (execs (lawStmts 6) env) Q E s := by
  show wpAny _ _ (execs [.Return (some (.BoolOp .And [.Compare (.Name "told" _) [.Eq] [.Name "due" _] _, .Compare (.Name "rows" _) [.Eq] [.Name "held" _] _] _)) _] env) _ _ _
  have e1 : SeqAt.RcAt A s vt vd true := by
    rcases r3 with ⟨rfl, rfl⟩ | ⟨l, g, ra, rb⟩
    · exact SeqAt.RcAt.none_none
    · exact eq_out g rb ra (by omega)
  have e2 : SeqAt.RcAt A s vr vh true := by
    have hd := dp_list 7 (rs.map Row.enc)
    rw [dAll_rows hrs] at hd
    simp only [dp, Bool.and_eq_true, decide_eq_true_eq] at hd
    obtain ⟨as, q1⟩ := r1.reads hd.1
    obtain ⟨bs, q2⟩ := r2.reads hd.1
    have := SeqAt.rcAt_reads (A := A) q1 q2 hd.1 hd.1 (by omega)
    rwa [SeqAt.eqv_refl _ hd.1] at this
  refine wpAny_execs_cons (wpAny_Return_some (BoolOp_and ?_))
  refine wpAny_Compare1 (ldv x hn h4 rfl (ldv x hn h3 rfl ?_))
  refine e1 prog w E _ ?_
  refine wpAny_truthy_bool ?_
  rw [if_pos rfl]
  refine BoolOp_one (wpAny_Compare1 (ldv x hn h1 rfl (ldv x hn h2 rfl ?_)))
  exact e2 prog w E _ hQ

theorem resAll_len {w : List (Int × Int)} {e : Int} : ∀ {rs : List Row} {l : List PyData}, resAll w e rs = some l → l.length ≤ rs.length := by
  intro x_
  induction x_ with
  | nil =>
    intro l h
    simp only [resAll, Option.some.injEq] at h; subst h; simp
  | cons r rs ih =>
    intro l h
    simp only [resAll] at h
    split at h
    · have := ih h
      simp only [List.length_cons]
      omega
    · obtain ⟨x, hx, h⟩ := Option.bind_eq_some_iff.mp h
      obtain ⟨l', hl, rfl⟩ := Option.map_eq_some_iff.mp h
      have := ih hl
      simp only [List.length_cons]
      omega
theorem asm_len {rs : List Row} {base : Int} {l : List PyData} (h : asm rs base = some l) : l.length ≤ rs.length := by
  obtain ⟨w, _, h⟩ := Option.bind_eq_some_iff.mp h
  exact resAll_len h
theorem rd_upto {h h' : Heap} {L τ : Addr} (k : ∀ b o, h.get? b = some o → b ≠ L → b ≠ τ → h'.get? b = some o) {v : Value} {d : PyData} (r : Rd w h (fun b => b = L ∨ b = τ) v d) : Rd w h' (fun b => b = L ∨ b = τ) v d :=
  r.mono fun b o e n => ⟨k b o e (fun q => n (.inl q)) (fun q => n (.inr q)), n⟩

theorem law_tail {m : Str → Option Value} {vr vb vh vd : Value} {rs : List Row} {base : Int} {ts : List Int} {Q : Flow → Shared → Prop}
    (x : EnvOk env L) (bs : Base mg mb H P) (hk : KeepAll H s.heap) (hL : H.get? L = none) (hτ : H.get? τ = none) (hroom : Room 40 A) (hh : A.handled = none) (hf : A.frames = some [env])
    (hn : s.heap.Ns L m) (h1 : m "rows" = some vr) (hb : m "base" = some vb) (h2 : m "held" = some vh) (h3 : m "due" = some vd) (hτo : ∃ vs n, s.heap.get? τ = some (LObj vs n) ∧ IntsAre vs.toList ts)
    (hrs : ∀ r ∈ rs, r.Ok) (hlen : rs.length ≤ 900)
    (r1 : Rd w s.heap (fun b => b = L ∨ b = τ) vr (.list (rs.map Row.enc))) (rb : Rd w s.heap (fun b => b = L ∨ b = τ) vb (.int base)) (r2 : Rd w s.heap (fun b => b = L ∨ b = τ) vh (.list (rs.map Row.enc)))
    (r3 : match asm rs base with | none => vd = .none | some l => Rd w s.heap (fun b => b = L ∨ b = τ) vd (.list l))
    (hQ : ∀ s', (∀ b o, H.get? b = some o → s'.heap.get? b = some o) → s'.gens = s.gens → s'.os = s.os → Q (.ret (.bool true)) s') :
    wpAny (model prog w) A (execs (lawStmts 5) env) Q (fun _ _ => False) s := by
  -- the ground of the call
  have nL : ∀ b o, H.get? b = some o → b ≠ L := fun b o e q => by rw [q, hL] at e; cases e
  have nτ : ∀ b o, H.get? b = some o → b ≠ τ := fun b o e q => by rw [q, hτ] at e; cases e
  refine hide fun b_ hb_ => ?_
  obtain ⟨oL, esL, epL, eL, dL, _, _⟩ := id hn
  obtain ⟨tv, tn, te, ti⟩ := hτo
  have Lτ : L ≠ τ := fun q => by
    rw [q, te] at eL
    refine hide fun b_ hb_ => ?_
    cases eL
    cases dL
  obtain ⟨H2, eH2⟩ : ∃ H2, H2 = hideAll s.heap [L, τ] := ⟨_, rfl⟩
  refine hb_ ?_
  have g2 : ∀ b o, s.heap.get? b = some o → b ≠ L → b ≠ τ → H2.get? b = some o := fun b o e a c => by
    rw [eH2]
    exact hideAll_get _ e (by simp [a, c])
  have o2 : ∀ b o, H2.get? b = some o → s.heap.get? b = some o := fun b o e => by rw [eH2] at e; exact of_hideAll _ e
  have L2 : H2.get? L = none := by rw [eH2]; exact hideAll_none _ (by simp)
  have τ2 : H2.get? τ = none := by rw [eH2]; exact hideAll_none _ (by simp)
  have kH2 : KeepAll H H2 := fun b o e => g2 b o (hk b o e) (nL b o e) (nτ b o e)
  have bs2 := bs.keeps kH2
  have LG : LawG (gcOf prog w H2 mg mb fun _ _ => True) P := bs2.law fun _ _ _ _ _ => trivial
  -- after a value for told is known
  have fin : ∀ (A' : Around) (E' : Value → Shared → Prop) (s3 : Shared) (vt : Value) (Q' : Unit → Shared → Prop), s3.heap.Ns L m → (∀ b o, s.heap.get? b = some o → b ≠ L → b ≠ τ → s3.heap.get? b = some o) → (s3.gens = s.gens ∧ s3.os = s.os) →
      (match asm rs base with | none => vt = .none | some l => Rd w s3.heap (fun b => b = L ∨ b = τ) vt (.list l)) →
      (∀ s4, wpAny (model prog w) A (execs (lawStmts 6) env) Q (fun _ _ => False) s4 → Q' () s4) →
      wpAny (model prog w) A' (storeName env "told" vt) Q' E' s3 := by
    intro A' E' s3 vt Q' hn3 k3 rest rt hQ'
    refine wpAny_storeName_local (x.kof rfl) (by rw [x.locals]; exact hn3) (fun h' hn' sb => hQ' _ ?_) (by rw [x.kind]; rfl)
    rw [x.locals] at hn' sb
    have k4 : ∀ b o, s3.heap.get? b = some o → b ≠ L → b ≠ τ → h'.get? b = some o := fun b o e a c => (sb.2 b a).trans e
    have k5 : ∀ b o, s.heap.get? b = some o → b ≠ L → b ≠ τ → h'.get? b = some o := fun b o e a c => k4 b o (k3 b o e a c) a c
    have ne : ∀ {y : Str}, y ≠ "told" → (if y = ("told" : Str) then some vt else m y) = m y := fun h => if_neg h
    refine finish (m := fun x => if x = ("told" : Str) then some vt else m x) (vd := vd) (vt := vt) (B := fun b => b = L ∨ b = τ) x (by have := hroom.2; omega) hn' ((ne (by rw [Ne, ofString_eq]; decide)).trans h1) ((ne (by rw [Ne, ofString_eq]; decide)).trans h2) ((ne (by rw [Ne, ofString_eq]; decide)).trans h3) (if_pos rfl) hrs (rd_upto k5 r1) (rd_upto k5 r2) ?_ ?_
    · cases ha : asm rs base with
      | none => rw [ha] at r3 rt; exact .inl ⟨r3, rt⟩
      | some l => rw [ha] at r3 rt; exact .inr ⟨l, asm_GR ha, rd_upto k5 r3, rd_upto k4 rt⟩
    · exact hQ _ (fun b o e => k5 b o (hk b o e) (nL b o e) (nτ b o e)) rest.1 rest.2
  have nsg : ∀ {h : Heap}, KeepAll H h → h.Ns env.globals mg := fun k => by rw [x.globals]; exact bs.g.keeps k
  have nsb : ∀ {h : Heap}, KeepAll H h → h.Ns env.builtins mb := fun k => by rw [x.builtins]; exact bs.b.keeps k
  show wpAny _ _ (execs [.Try [.Assign [.Name "told" _] (.Call (.Name "list" _) [.Call (.Name "assemble" _) [.Name "rows" _, .Name "base" _] [] _] [] _) _]
      [.ExceptHandler (some (.Name "LinkFault" _)) none [.Assign [.Name "told" _] (.Constant .none 0 _) _] _] [] [] _, _] env) _ _ _
  refine wpAny_execs_cons (wpAny_Try_except ?_)
  refine wpAny_execs_cons (wpAny_Assign_Name ?_ rfl)
  refine Call_Name1 (Name_function_global x.kind (x.kof rfl) (loadGlobal_builtin (mg := mg) (mb := mb) (nsg hk) (LG.mgN (nm := "list") rfl) (nsb hk) ((bs.builtins "list" (by rw [Ne, ofString_eq]; decide)).trans rfl) ?_)) rfl
  refine PySem.callWith_type rfl (evalArgs_plain (spliced_cons ?_))
  have hob := bs2.X 165 _ rfl
  refine Call_Name2 (Name_function_global x.kind (x.kof rfl) (loadGlobal_global (mg := mg) (nsg hk) (LG.mg (nm := "assemble") (v := .ref 165) rfl) ?_)) rfl
  refine callWith_function (o := _) (fd := _) (evalArgs_plain (spliced_cons (ldv x hn h1 rfl (spliced_cons (ldv x hn hb rfl (spliced_nil ⟨⟨o2 _ _ hob, rfl⟩, ?_⟩))))))
  have pre : CallPre (gcOf prog w H2 mg mb fun _ _ => True) 9 A [env] τ (fun b => b = L ∨ b = τ) ts s :=
    ⟨LG.ok, hroom.le (by decide), hh, hf, o2, τ2, ⟨tv, tn, te, ti, trivial⟩, .inr rfl, fun b hb => by
      rcases hb with rfl | rfl
      · exact ⟨_, eL⟩
      · exact ⟨_, te⟩, ⟨by rw [x.kind]; decide, ⟨L, oL, x.frame, L2, eL, fun vs q => by rw [dL] at q; cases q⟩, trivial⟩⟩
  have hspec := asm_spec (P := P) hrs hlen base ts
  refine wpAny_mono (spec_assemble LG A [env] τ (fun b => b = L ∨ b = τ) [.sh (.list (rs.map Row.enc)), .sh (.int base)] [vr, vb] ts s pre (.cons (.sh r1) (.cons (.sh rb) .nil)) (by rw [hspec]; cases asm rs base <;> simp)) (fun v s3 q => ?_) fun e s3 q => ?_
  · -- the answer
    rw [hspec] at q
    cases ha : asm rs base with
    | none => rw [ha] at q; exact q.elim
    | some l =>
      rw [ha] at q
      refine hide fun b_ hb_ => ?_
      obtain ⟨c1, c2, c3, c4, c5⟩ := q
      refine hb_ ?_
      refine spliced_nil ?_
      have hl : lstD (.list l) = some (.list l, true) := by
        show (if _ then _ else _) = _
        rw [if_pos (by have := asm_len ha; omega)]
      have Bin : ∀ b, (b = L ∨ b = τ) → ∃ o, s3.heap.get? b = some o := by
        intro b hb
        rcases hb with rfl | rfl
        · exact ⟨_, c4 _ _ Lτ eL⟩
        · refine hide fun b_ hb_ => ?_
          obtain ⟨tv3, tn3, te3, _⟩ := c1
          refine hb_ ?_
          exact ⟨_, te3⟩
      refine wpAny_mono (lst_sound (G := gcOf prog w H2 mg mb fun _ _ => True) (A := A) Bin (.rd c2) hl (fun _ _ => False)) (fun v2 s4 q2 => ?_) fun _ _ q => q.elim
      refine hide fun b_ hb_ => ?_
      obtain ⟨d1, d2, d3, _⟩ := q2
      refine hb_ ?_
      refine fin A _ s4 v2 _ ?_ (fun b o e a c => d1 _ _ (c4 _ _ c e)) ⟨d2.1.trans c5.1, d2.2.2.trans c5.2.2⟩ (by rw [ha]; exact d3) fun s5 q5 => ?_
      · exact ⟨oL, esL, epL, d1 _ _ (c4 _ _ Lτ eL), dL, by obtain ⟨o', es', ep', e', d', r'⟩ := hn; rw [eL] at e'; cases e'; rw [dL] at d'; cases d'; exact r'⟩
      · exact wpAny_execs_nil (wpAny_execs_nil q5)
  · -- the exception
    refine hide fun b_ hb_ => ?_
    obtain ⟨er, ea, a0, rfl, fl, up, rst⟩ := q
    refine hb_ ?_
    rw [hspec] at er
    have ha : asm rs base = none := by
      cases h : asm rs base with
      | none => rfl
      | some l => rw [h] at er; cases er
    refine wpAny_looks_onW (L := L) hf x.frame fl fun h4 hheld4 sm4 => ?_
    refine wpAny_landsW hheld4 fun h5 hheld sm5 => ?_
    have X5 : (kFrag P).In h5 := bs2.X.keeps hheld.1
    refine hide fun b_ hb_ => ?_
    obtain ⟨ob, hob5, hobc⟩ := hheld.there
    obtain ⟨nm, q', N, bs', bm, hdct, sn, sub, ab, col, dd, k0, k1, k2, k3, k5, newId, hC, hbase, _⟩ := kts_cls (C := 45) (T := "BaseException") X5 (by kernel_rfl)
    refine hb_ ?_
    refine wpAny_handleBy_cons (codeAny_handlers_test (Name_function_global x.kind (x.kof rfl) (loadGlobal_global (mg := mg) (nsg (kH2.trans hheld.1)) (LG.mg (nm := "LinkFault") (v := .ref 45) rfl) ?_))) (by intro q; cases q)
    refine wpAny_excMatches_sub_self hC hob5 hobc hbase (codeAny_handlers_suite ?_)
    refine lands_againW hheld fun h6 fl6 sm6 => ?_
    refine wpAny_passesOwnAt PassesOwnAt.never ?_
    refine wpAny_execs_cons (wpAny_Assign_Name (wpAny_Constant_none ?_) rfl)
    refine fin _ _ { s3 with heap := h6 } .none _ ?_ (fun b o e a c => fl6.1 b o (g2 b o e a c)) ⟨rst.1, rst.2.2⟩ (by rw [ha]) fun s5 q5 => ?_
    · have n3 : s3.heap.Ns L m := by
        refine hide fun b_ hb_ => ?_
        obtain ⟨o', es', ep', e', d', r', r''⟩ := hn
        obtain ⟨sl, e3⟩ := up L o' e' Lτ (fun vs q => by rw [d'] at q; cases q)
        refine hb_ ?_
        exact ⟨_, es', ep', e3, d', r', r''⟩
      exact sm6.ns (sm5.ns (sm4.ns n3))
    · exact wpAny_execs_nil q5
end
end Mine
namespace Mine
open PySem PySem.W PySem.Calls PyProof.Rows

noncomputable def notListB (o : Obj) : Bool := match o.cls with
  | .type T => T != "list"
  | _ => true
theorem frag_notList (P : Params) : (kFrag P).all (fun p => notListB p.2) = true := by kernel_rfl
theorem mem_lookup {α : Type} : ∀ {l : List (Addr × α)} {a : Addr} {x : α}, l.lookup a = some x → (a, x) ∈ l := by
  intro x_
  induction x_ with
  | nil => intro _ _ h; exact nomatch h
  | cons h0_ r ih =>
    obtain ⟨k, v⟩ := h0_
    intro a x h
    rw [List.lookup_cons] at h
    cases hb : a == k with
    | true =>
      rw [hb] at h
      cases h
      have : a = k := by simpa using hb
      subst this
      exact List.mem_cons_self
    | false => rw [hb] at h; exact List.mem_cons_of_mem _ (ih h)
noncomputable abbrev lawVars : List Str := ["script", "row", "rows", "base", "held", "due", "told"]
noncomputable def fcOf (env : Env) (L τ : Addr) (hin : Heap) (s : Shared) : FC := ⟨env, env, [], L, τ, fun _ => False, fun b => b = L, hin, lawVars, true, s.gens, s.drawn, s.os⟩

section
variable {prog : Program} {w : World} {mg mb : Str → Option Value} {H : Heap} {P : Params} {env : Env} {L τ : Addr} {A : Around} {E : Value → Shared → Prop} {s : Shared} {B : Addr → Prop} {G : GC}

theorem fc_ok {hin : Heap} {s0 : Shared} (x : EnvOk env L) (base : KeepAll G.H hin) (τH : G.H.get? τ = none) (τin : ∃ o, hin.get? τ = some o) (Ln : hin.get? L = none) : (fcOf env L τ hin s0).Ok G :=
  ⟨x.kind, x.globals, x.builtins, x.locals, rfl, base, τH, τin, (fun b h => h.elim), (fun b h => by rw [show b = L from h]; exact Ln), rfl, ⟨L, x.frame⟩, (show lawVars.Nodup by simp [lawVars, ofString_eq]), (fun n n' ca h => by rw [show (fcOf env L τ hin s0).env.cells = [] from x.cells] at h; cases h), (fun _ n ca h => by rw [show (fcOf env L τ hin s0).env.cells = [] from x.cells] at h; cases h)⟩
theorem ns_hide {a b : Addr} {m : Str → Option Value} {vs : Array Value} {n : Nat} (ha : H.get? a = some (LObj vs n)) (h : H.Ns b m) : (hideAll H [a]).Ns b m := by
  obtain ⟨o, es, ep, e, d, r⟩ := h
  refine ⟨o, es, ep, hideAll_get _ e ?_, d, r⟩
  intro q
  simp only [List.mem_singleton] at q
  subst q
  rw [ha] at e
  cases e
  cases d
theorem Base.hide {a : Addr} {vs : Array Value} {n : Nat} (x : Base mg mb H P) (ha : H.get? a = some (LObj vs n)) (hs : ∃ mm, H.Ns sysModules mm) : Base mg mb (hideAll H [a]) P := by
  refine ⟨ns_hide ha x.g, ns_hide ha x.b, ?_, x.builtins, ?_, ?_, ?_⟩
  · obtain ⟨mc, h1, h2⟩ := x.nolimit
    exact ⟨mc, ns_hide ha h1, h2⟩
  · obtain ⟨mm, h⟩ := hs
    obtain ⟨o, _, _, e, _⟩ := ns_hide ha h
    exact ⟨o, e⟩
  · intro b o e
    refine hideAll_get _ (x.X b o e) ?_
    intro q
    simp only [List.mem_singleton] at q
    subst q
    have e2 := x.X b o e
    rw [ha] at e2
    cases e2
    have := List.all_eq_true.mp (frag_notList P) _ (mem_lookup e)
    simp [notListB] at this
  · intro p hp
    obtain ⟨c, o, ws, t, e1, e2, e3, e4⟩ := x.codes p hp
    refine ⟨c, o, ws, t, e1, hideAll_get _ e2 ?_, e3, e4⟩
    intro q
    simp only [List.mem_singleton] at q
    subst q
    rw [ha] at e2
    cases e2
    cases e3
theorem ns_inj {h : Heap} {a : Addr} {m m' : Str → Option Value} (x : h.Ns a m) (y : h.Ns a m') (nm : Str) : m nm = m' nm := by
  obtain ⟨o, es, ep, e, d, _, r⟩ := x
  obtain ⟨o', es', ep', e', d', _, r'⟩ := y
  rw [e] at e'
  cases e'
  rw [d] at d'
  cases d'
  rw [← r, ← r']
theorem intsAre_of {h : Heap} {vs : List Value} {ks : List Int} (r : RdAll w h B vs (ks.map .int)) : IntsAre vs ks := by
  induction ks generalizing vs with
  | nil => cases r; exact .nil
  | cons k ks ih =>
    cases r with
    | cons a b =>
      obtain ⟨t, rfl⟩ := rd_int a
      exact .cons _ _ (ih b)
theorem var_m {c : FC} {st : St} {vs : Nat → Value} (x : EnvOk env L) (hc : c.env = env) (r : SR G c st vs s) {m : Str → Option Value} (hn : s.heap.Ns L m) (i : Nat) (nm : Str) (sl : Slot) (h1 : c.vars[i]? = some nm) (h2 : st.ρ[i]? = some sl) (hk : lawSc.names.lookup nm = some .local) : m nm = sl.ov (vs i) := by
  have := r.var i nm sl h1 h2
  unfold VarAt at this
  rw [hc, x.kof hk] at this
  obtain ⟨m', hn', e⟩ := this
  rw [x.locals] at hn'
  rw [ns_inj hn hn', e]
theorem step {c : FC} {st st' : St} {vs : Nat → Value} {e : Stmt} {F : SF} {rest : List Stmt} {n : Nat} {Q : Flow → Shared → Prop} (h : SS G lawSc lawVars n e F) (hsc : c.env.scope = lawSc) (hv : c.vars = lawVars) (ho : c.ownc = true) (S : Surr G c n A) (r : SR G c st vs s) (ev : F st = .ok .next st')
    (k : ∀ vs' s', SR G c st' vs' s' → wpAny G.M A (execs rest c.env) Q E s') : wpAny G.M A (execs (e :: rest) c.env) Q E s := by
  have := h c A st vs s hsc hv ho S r (by rw [ev]; simp)
  rw [ev] at this
  refine wpAny_execs_cons (wpAny_mono this (fun f s' q => ?_) fun e s' q => by cases q.1)
  obtain ⟨rfl, vs', r', _⟩ := q
  exact k vs' s' r'

set_option maxHeartbeats 4000000 in
theorem law_walk {a : Addr} {tvs : Array Value} {n0 : Nat} {ts : List Int} {m0 : Str → Option Value} {Q : Flow → Shared → Prop}
    (x : EnvOk env L) (bs : Base mg mb H P) (hs : ∃ mm, H.Ns sysModules mm) (hL : H.get? L = none) (hroom : Room 40 A) (hh : A.handled = none) (hf : A.frames = some [env])
    (ha : H.get? a = some (LObj tvs n0)) (hi : IntsAre tvs.toList ts) (hts : ts.length ≤ 100) (hk : KeepAll H s.heap) (hn : s.heap.Ns L m0) (hm : m0 "script" = some (.ref a)) (hm1 : ∀ y : Str, y ≠ ("script" : Str) → m0 y = none)
    (hQ : ∀ s', (∀ b o, H.get? b = some o → s'.heap.get? b = some o) → s'.gens = s.gens → s'.os = s.os → Q (.ret (.bool true)) s') :
    wpAny (model prog w) A (execs (lawStmts 0) env) Q (fun _ _ => False) s := by
  show wpAny _ _ (execs [.Assign [.Name "row" _] (.Call (.Name "_law_row" _) [.Name "script" _] [] _) _,
      .Assign [.Name "rows" _] (.Call (.Name "_law_block" _) [.Name "row" _] [] _) _,
      .Assign [.Name "base" _] (.Call (.Name "_law_next" _) [.Name "row" _] [] _) _,
      .Assign [.Name "held" _] (.Call (.Name "list" _) [.Name "rows" _] [] _) _,
      .Assign [.Name "due" _] (.Call (.Name "_law_due" _) [.Name "rows" _, .Name "base" _] [] _) _, _, _] env) _ _ _
  have La : L ≠ a := fun q => by rw [q, ha] at hL; cases hL
  obtain ⟨oL, esL, epL, eL, dL, rL⟩ := id hn
  -- the first frame: the script is the tape
  obtain ⟨I0, eI0⟩ : ∃ I0 : Array Value → Nat → Prop, I0 = fun vs n => (vs = tvs ∧ n = n0) ∨ vs.size < tvs.size := ⟨_, rfl⟩
  have bs0 := bs.hide ha hs
  have LG0 : LawG (gcOf prog w (hideAll H [a]) mg mb I0) P := bs0.law (by
    intro vs n n' h hne
    rw [eI0] at h ⊢
    right
    have hpos : 0 < vs.size := Array.size_pos_iff.mpr hne
    have : (vs.eraseIdxIfInBounds (vs.size - 1)).size = vs.size - 1 := by
      rw [Array.eraseIdxIfInBounds, dif_pos (by omega), Array.size_eraseIdx]
    rw [this]
    rcases h with ⟨rfl, _⟩ | h <;> omega)
  have ok0 : (fcOf env L a H s).Ok (gcOf prog w (hideAll H [a]) mg mb I0) := fc_ok x (fun b o e => of_hideAll _ e) (hideAll_none _ (by simp)) ⟨_, ha⟩ hL
  have S0 : Surr (gcOf prog w (hideAll H [a]) mg mb I0) (fcOf env L a H s) 9 A := ⟨ok0, LG0.ok, hroom.le (by decide), hh, hf⟩
  have kof : ∀ {nm : Str}, lawSc.names.lookup nm = some .local → env.kindOf nm = some .local := fun h => x.kof h
  have va : ∀ (h : Heap) (m : Str → Option Value) (nm : Str), h.Ns L m → lawSc.names.lookup nm = some .local → VarAt h env nm (m nm) := by
    intro h m nm hn hk
    unfold VarAt
    rw [x.kof hk]
    exact ⟨m, by rw [x.locals]; exact hn, rfl⟩
  have fr : ∀ (h base : Heap) (o : Obj), base.get? L = none → h.get? L = some o → (∀ vs, o.data ≠ .fields vs) → h.FunFrames base [env] := fun h base o h1 h2 h3 => ⟨by rw [x.kind]; decide, ⟨L, o, x.frame, h1, h2, h3⟩, trivial⟩
  have SR0 : SR (gcOf prog w (hideAll H [a]) mg mb I0) (fcOf env L a H s) ⟨[.tape, .unset, .unset, .unset, .unset, .unset, .unset], ts⟩ (fun _ => .ref a) s := by
    refine ⟨rfl, ?_, ?_, ?_, ⟨tvs, n0, hk _ _ ha, hi, by rw [eI0]; exact .inl ⟨rfl, rfl⟩⟩, hk.but _, fr _ _ oL (by cases q : (hideAll H [a]).get? L with | none => rfl | some o => have := of_hideAll _ q; rw [hL] at this; cases this) eL (fun vs q => by rw [dL] at q; cases q), ⟨rfl, rfl, rfl⟩, ?_, ⟨_, hn⟩⟩
    · intro i nm sl h1 h2
      have hv := fun hk => va s.heap m0 nm hn hk
      rcases i with _ | _ | _ | _ | _ | _ | _ | i
      all_goals simp only [fcOf, lawVars, List.getElem?_cons_succ, List.getElem?_cons_zero, List.getElem?_nil, Option.some.injEq, reduceCtorEq] at h1 h2
      all_goals subst h1 h2
      · have := hv rfl; rwa [hm] at this
      · have := hv rfl; rwa [hm1 _ (by rw [Ne, ofString_eq]; decide)] at this
      · have := hv rfl; rwa [hm1 _ (by rw [Ne, ofString_eq]; decide)] at this
      · have := hv rfl; rwa [hm1 _ (by rw [Ne, ofString_eq]; decide)] at this
      · have := hv rfl; rwa [hm1 _ (by rw [Ne, ofString_eq]; decide)] at this
      · have := hv rfl; rwa [hm1 _ (by rw [Ne, ofString_eq]; decide)] at this
      · have := hv rfl; rwa [hm1 _ (by rw [Ne, ofString_eq]; decide)] at this
    · intro i sl h2
      rcases i with _ | _ | _ | _ | _ | _ | _ | i
      all_goals simp only [List.getElem?_cons_succ, List.getElem?_cons_zero, List.getElem?_nil, Option.some.injEq, reduceCtorEq] at h2
      all_goals subst h2
      all_goals first | rfl | trivial
    · intro i j si sj y z hij h1 h2 h3 h4
      exfalso
      rcases i with _ | _ | _ | _ | _ | _ | _ | i
      all_goals simp only [List.getElem?_cons_succ, List.getElem?_cons_zero, List.getElem?_nil, Option.some.injEq, reduceCtorEq] at h1
      all_goals subst h1
      all_goals cases h3
    · intro b hb
      rw [show b = L from hb]
      exact ⟨_, eL⟩
  obtain ⟨row, erow, trow⟩ := row_ex hts
  refine step (G := gcOf prog w (hideAll H [a]) mg mb I0) (n := 9) (c := fcOf env L a H s) (SS_assign 1 rfl (SE_call (spec_law_row LG0) (by decide) (.cons (SE_var 0 rfl (by decide)) (fun _ _ => rfl) .nil) (LG0.mg rfl) ⟨_, _, LG0.X 172 _ rfl, rfl⟩ rfl (by decide)) (fun _ => rfl)) x.scope rfl rfl S0 SR0 (st' := ⟨[.tape, .own (.list (row.map .int)), .unset, .unset, .unset, .unset, .unset], ts⟩) (by simp [erow]) ?_
  intro vs1 s1 r1
  obtain ⟨tv1, tn1, te1, ti1, tI1⟩ := r1.tape
  have hA1 : s1.heap.get? a = some (LObj tvs n0) := by
    rw [eI0] at tI1
    have l1 := ti1.length
    have l2 := hi.length
    simp only [Array.length_toList] at l1 l2
    rcases tI1 with ⟨rfl, rfl⟩ | h
    · exact te1
    · omega
  have k1 : KeepAll H s1.heap := by
    intro b o e
    by_cases q : b = a
    · subst q; rw [ha] at e; cases e; exact hA1
    · exact r1.keep b o q e
  have v0 : vs1 0 = .ref a := r1.slot 0 .tape rfl
  obtain ⟨ra, er, tr, fr1, fr2⟩ := r1.slot 1 (.own (.list (row.map .int))) rfl
  have Lra : ra ≠ L := fr2
  have ara : a ≠ ra := fun q => by rw [← q] at fr1; rw [show (fcOf env L a H s).hin.get? a = some (LObj tvs n0) from ha] at fr1; cases fr1
  have fr1' : H.get? ra = none := fr1
  obtain ⟨m1, hn1⟩ := r1.nsL
  have hn1' : s1.heap.Ns L m1 := hn1
  obtain ⟨oL1, esL1, epL1, eL1, dL1, rL1⟩ := id hn1'
  obtain ⟨rv, rn, re, rrd⟩ : ∃ rv rn, s1.heap.get? ra = some (LObj rv rn) ∧ IntsAre rv.toList row := by
    cases tr with
    | list e r => exact ⟨_, _, e, intsAre_of r⟩
  have rest1 : s1.gens = s.gens ∧ s1.drawn = s.drawn ∧ s1.os = s.os := r1.rest
  -- the second frame: the row is the tape
  have LG1 : LawG (gcOf prog w H mg mb fun _ _ => True) P := bs.law fun _ _ _ _ _ => trivial
  have hin1 : ∀ b o, s1.heap.get? b = some o → b ≠ L → (hideAll s1.heap [L]).get? b = some o := fun b o e n => hideAll_get _ e (by simpa using n)
  have ok1 : (fcOf env L ra (hideAll s1.heap [L]) s1).Ok (gcOf prog w H mg mb fun _ _ => True) := fc_ok x (fun b o e => hin1 b o (k1 b o e) fun q => by rw [q, hL] at e; cases e) fr1' ⟨_, hin1 _ _ re Lra⟩ (hideAll_none _ (by simp))
  have S1 : Surr (gcOf prog w H mg mb fun _ _ => True) (fcOf env L ra (hideAll s1.heap [L]) s1) 9 A := ⟨ok1, LG1.ok, hroom.le (by decide), hh, hf⟩
  have SR1 : SR (gcOf prog w H mg mb fun _ _ => True) (fcOf env L ra (hideAll s1.heap [L]) s1) ⟨[.sh (.list (ts.map .int)), .tape, .unset, .unset, .unset, .unset, .unset], row⟩ vs1 s1 := by
    refine ⟨rfl, ?_, ?_, ?_, ⟨rv, rn, re, rrd, trivial⟩, (fun b o _ e => of_hideAll _ e), fr _ _ oL1 hL eL1 (fun vs q => by rw [dL1] at q; cases q), ⟨rfl, rfl, rfl⟩, ?_, ⟨_, hn1'⟩⟩
    · intro i nm sl h1 h2
      have hv := r1.var i nm
      rcases i with _ | _ | _ | _ | _ | _ | _ | i
      all_goals simp only [fcOf, lawVars, List.getElem?_cons_succ, List.getElem?_cons_zero, List.getElem?_nil, Option.some.injEq, reduceCtorEq] at h1 h2
      all_goals subst h1 h2
      · exact hv .tape rfl rfl
      · exact hv (.own (.list (row.map .int))) rfl rfl
      · exact hv .unset rfl rfl
      · exact hv .unset rfl rfl
      · exact hv .unset rfl rfl
      · exact hv .unset rfl rfl
      · exact hv .unset rfl rfl
    · intro i sl h2
      rcases i with _ | _ | _ | _ | _ | _ | _ | i
      all_goals simp only [List.getElem?_cons_succ, List.getElem?_cons_zero, List.getElem?_nil, Option.some.injEq, reduceCtorEq] at h2
      all_goals subst h2
      · show Rd _ _ _ (vs1 0) _
        rw [v0]
        refine .list hA1 ?_ (rdAll_ints hi)
        rintro (h | h | h | ⟨i, sl, y, h1, h2, h3⟩)
        · exact h
        · exact La (show a = L from h).symm
        · exact ara (show a = ra from h)
        · rcases i with _ | _ | _ | _ | _ | _ | _ | i
          all_goals simp only [List.getElem?_cons_succ, List.getElem?_cons_zero, List.getElem?_nil, Option.some.injEq, reduceCtorEq] at h1
          all_goals subst h1
          all_goals cases h2
      all_goals first | exact er | trivial
    · intro i j si sj y z hij h1 h2 h3 h4
      exfalso
      rcases i with _ | _ | _ | _ | _ | _ | _ | i
      all_goals simp only [List.getElem?_cons_succ, List.getElem?_cons_zero, List.getElem?_nil, Option.some.injEq, reduceCtorEq] at h1
      all_goals subst h1
      all_goals cases h3
    · intro b hb
      rw [show b = L from hb]
      exact ⟨_, eL1⟩
  obtain ⟨rs, ts1, eb, hrs, hrl, ht1⟩ := block_ex trow
  obtain ⟨bse, ts2, ebase, _, _, ht2⟩ := next_ex ht1
  obtain ⟨fd, edue⟩ := due_spec hrs (by omega) bse ts2
  have hlr : rs.length ≤ 100000 := by omega
  refine step (G := gcOf prog w H mg mb fun _ _ => True) (n := 9) (c := fcOf env L ra (hideAll s1.heap [L]) s1) (SS_assign 2 rfl (SE_call (spec_law_block LG1) (by decide) (.cons (SE_var 1 rfl (by decide)) (fun _ _ => rfl) .nil) (LG1.mg rfl) ⟨_, _, LG1.X 215 _ rfl, rfl⟩ rfl (by decide)) (fun _ => rfl)) x.scope rfl rfl S1 SR1
    (st' := ⟨[.sh (.list (ts.map .int)), .tape, .own (.list (rs.map Row.enc)), .unset, .unset, .unset, .unset], ts1⟩) (by simp [eb]) ?_
  intro vs2 s2 r2
  refine step (G := gcOf prog w H mg mb fun _ _ => True) (n := 9) (c := fcOf env L ra (hideAll s1.heap [L]) s1) (SS_assign 3 rfl (SE_call (spec_law_next LG1) (by decide) (.cons (SE_var 1 rfl (by decide)) (fun _ _ => rfl) .nil) (LG1.mg rfl) ⟨_, _, LG1.X 179 _ rfl, rfl⟩ rfl (by decide)) (fun _ => rfl)) x.scope rfl rfl S1 r2
    (st' := ⟨[.sh (.list (ts.map .int)), .tape, .own (.list (rs.map Row.enc)), .sh (.int bse), .unset, .unset, .unset], ts2⟩) (by simp [ebase]) ?_
  intro vs3 s3 r3
  refine step (G := gcOf prog w H mg mb fun _ _ => True) (n := 9) (c := fcOf env L ra (hideAll s1.heap [L]) s1) (SS_assign 4 rfl (SE_listOf LG1 (SE_var 2 rfl (by decide)) (fun _ _ => rfl) rfl rfl) (fun _ => rfl)) x.scope rfl rfl S1 r3
    (st' := ⟨[.sh (.list (ts.map .int)), .tape, .own (.list (rs.map Row.enc)), .sh (.int bse), .own (.list (rs.map Row.enc)), .unset, .unset], ts2⟩) (by simp [hlr]) ?_
  intro vs4 s4 r4
  obtain ⟨dsl, edsl, hdsl⟩ : ∃ dsl : Slot, (sAssign 5 (eCall fn_law_due [(eVar 2), (eVar 3)]) ⟨[.sh (.list (ts.map .int)), .tape, .own (.list (rs.map Row.enc)), .sh (.int bse), .own (.list (rs.map Row.enc)), .unset, .unset], ts2⟩ = .ok .next ⟨[.sh (.list (ts.map .int)), .tape, .sh (.list (rs.map Row.enc)), .sh (.int bse), .own (.list (rs.map Row.enc)), dsl, .unset], ts2⟩) ∧
      (match asm rs bse with | none => dsl = .sh .none | some l => dsl = .own (.list l) ∨ dsl = .sh (.list l)) := by
    cases ha : asm rs bse with
    | none =>
      rw [ha] at edue
      exact ⟨.sh .none, by simp [edue], rfl⟩
    | some l =>
      rw [ha] at edue
      cases fd with
      | false => exact ⟨.sh (.list l), by simp [edue], .inr rfl⟩
      | true => exact ⟨.own (.list l), by simp [edue], .inl rfl⟩
  refine step (G := gcOf prog w H mg mb fun _ _ => True) (n := 9) (c := fcOf env L ra (hideAll s1.heap [L]) s1) (SS_assign 5 rfl (SE_call (spec_law_due LG1) (by decide) (.cons (SE_var 2 rfl (by decide)) (fun _ _ => rfl) (.cons (SE_var 3 rfl (by decide)) (fun _ _ => rfl) .nil)) (LG1.mg rfl) ⟨_, _, LG1.X 222 _ rfl, rfl⟩ rfl (by decide)) (fun _ => rfl)) x.scope rfl rfl S1 r4 edsl ?_
  intro vs5 s5 r5
  obtain ⟨m5, hn5⟩ := r5.nsL
  have hn5' : s5.heap.Ns L m5 := hn5
  have shR : ∀ (i : Nat) (y : PyData), ([.sh (.list (ts.map .int)), .tape, .sh (.list (rs.map Row.enc)), .sh (.int bse), .own (.list (rs.map Row.enc)), dsl, .unset] : List Slot)[i]? = some (.sh y) → Rd w s5.heap (fun b => b = L ∨ b = ra) (vs5 i) y := by
    intro i y h
    have : Rd w s5.heap _ (vs5 i) y := r5.slot i (.sh y) h
    exact this.mono fun b o e n => ⟨e, fun q => n (by
      rcases q with q | q
      · exact .inr (.inl q)
      · exact .inr (.inr (.inl q)))⟩
  have owR : ∀ (i : Nat) (y : PyData), ([.sh (.list (ts.map .int)), .tape, .sh (.list (rs.map Row.enc)), .sh (.int bse), .own (.list (rs.map Row.enc)), dsl, .unset] : List Slot)[i]? = some (.own y) → Rd w s5.heap (fun b => b = L ∨ b = ra) (vs5 i) y := by
    intro i y h
    obtain ⟨b, eb, t, f1, f2⟩ := r5.slot i (.own y) h
    rw [eb]
    refine (t.mono (B' := fun b => b = L ∨ b = ra) (fun b o e n => ⟨e, fun q => n (by
      rcases q with q | q
      · exact .inr (.inl q)
      · exact .inr (.inr (.inl q)))⟩) fun o e => e).rd ?_
    rintro (q | q)
    · exact f2 q
    · rw [show b = ra from q] at f1
      rw [show (fcOf env L ra (hideAll s1.heap [L]) s1).hin.get? ra = _ from hin1 _ _ re Lra] at f1
      cases f1
  have rest5 : s5.gens = s1.gens ∧ s5.drawn = s1.drawn ∧ s5.os = s1.os := r5.rest
  obtain ⟨tv5, tn5, te5, ti5, _⟩ := r5.tape
  have vm := fun i nm sl h1 h2 hk => var_m x rfl r5 hn5' i nm sl h1 h2 hk
  refine law_tail (rs := rs) (base := bse) (ts := ts2) (vr := vs5 2) (vb := vs5 3) (vh := vs5 4) (vd := vs5 5) x bs ?_ hL fr1' hroom hh hf hn5' (vm 2 _ _ rfl rfl rfl) (vm 3 _ _ rfl rfl rfl) (vm 4 _ _ rfl rfl rfl) ?_ ⟨tv5, tn5, te5, ti5⟩ hrs (by omega) (shR 2 _ rfl) (shR 3 _ rfl) (owR 4 _ rfl) ?_ fun s' h1 h2 h3 => hQ s' h1 (h2.trans (rest5.1.trans rest1.1)) (h3.trans (rest5.2.2.trans rest1.2.2))
  · intro b o e
    have nL : b ≠ L := fun q => by rw [q, hL] at e; cases e
    have nR : b ≠ ra := fun q => by rw [q, fr1'] at e; cases e
    exact r5.keep b o nR (hin1 b o (k1 b o e) nL)
  · have := vm 5 _ dsl rfl rfl rfl
    rw [this]
    cases ha : asm rs bse with
    | none => rw [ha] at hdsl; subst hdsl; rfl
    | some l => rw [ha] at hdsl; rcases hdsl with rfl | rfl <;> rfl
  · cases ha : asm rs bse with
    | none =>
      rw [ha] at hdsl
      subst hdsl
      have := shR 5 .none rfl
      revert this
      generalize vs5 5 = v
      intro this
      cases this
      rfl
    | some l =>
      rw [ha] at hdsl
      rcases hdsl with rfl | rfl
      · exact owR 5 _ rfl
      · exact shR 5 _ rfl
end
end Mine
namespace Mine
open PySem PySem.W PySem.Calls PyProof.Rows
set_option maxHeartbeats 0 in
theorem said_looks : looksOpen PySem.Challenge.rw_no0159_01.row.prog = true := by
  unfold looksOpen
  repeat' with_reducible refine look_both ?_ ?_
  all_goals decide +kernel
set_option maxHeartbeats 0 in
theorem said_part : PySem.Challenge.rw_no0159_01.row.partSaid = true := by
  unfold OpenRow.partSaid
  repeat' with_reducible refine look_both ?_ ?_
  all_goals first | with_reducible exact said_looks | decide +kernel
set_option maxHeartbeats 0 in
theorem said_row : PySem.Challenge.rw_no0159_01.row.wellSaid = true := by
  unfold OpenRow.wellSaid
  repeat' with_reducible refine look_both ?_ ?_
  all_goals first | with_reducible exact said_part | decide +kernel
set_option maxHeartbeats 0 in
theorem said0 : PySem.Challenge.rw_no0159_01.wellSaid = true := by
  unfold OpenLaw.wellSaid
  repeat' with_reducible refine look_both ?_ ?_
  all_goals first | with_reducible exact said_row | decide +kernel
set_option maxHeartbeats 8000000 in
theorem law_holds : PySem.Challenge.rw_no0159_01.Holds := by
  w_on
  refine holds_law said0 fun said => ?_
  refine holds_open (q := view0) (loose := [Str.ofString "LinkFault", Str.ofString "assemble"]) (Xt := fun s => xlAt view0 [] s && recOk (RowW.records PySem.Challenge.rw_no0159_01.row.toRowW) s) (XP := XL view0 []) (Yf := Hook.obs hook0) (Ya := Hook.val hook0) (YP := Hook.says hook0) (N := 2766) head_left (Hook.of hook0) (Hook.keeps hook0) (fun s e => xl_of s (Bool.and_eq_true_iff.mp e).1) XL.keeps (by rfl) (by rfl) (by rfl) (fun s e => recFacts_of (Bool.and_eq_true_iff.mp e).2) (by rfl) said (by decide +kernel) ⟨rfl, rfl, rfl, rfl, rfl, by decide +kernel⟩ ?hw ?hc
  case hw => w_witness2
  case hc =>
    intro w s₀ s₁ mg mb G Y fa o pm cd doc dV kV ho hd hcd hD hmg hg args vals as hpre hlay hrd hwl hlo
    have KX := Y.1
    have KC := Y.2
    have X := (Ground.X G).1
    have V := (Ground.X G).2
    refine Ground.open G ?_
    intro T BB DD TE TW
    try (refine guard_noD DD (by decide +kernel) ?_; clear DD)
    obtain ⟨_, _, M⟩ := bmod_of_top T
    have TA := at_of_top T
    try (obtain ⟨_, _, he, B0⟩ := based_of_top T rfl hmg ho hd; have he' : cd = _ := he; subst he'; clear he)
    clear hmg
    wrow_args hpre hlay hrd hwl hlo
    refine enter_call ?_
    w_top on
    refine codeAny_mono ?_ (fun _ _ g => GoodW.toG g)
    have K0 := below_caller (Top.heap T)
    w_call any ho hd hcd hD T F
    clear hd TA
    rename_i w9 w8 w7 w6 w5 hs hlay0 hL1 hr1 hl2 w4 w3 w2 w1' w0 hL ra w1 r0 hI hr hc1 hc0 h1 N0
    have bs : Base mg mb s₁.heap w.params := by
      refine ⟨T.g, T.b, T.nolimit, T.builtins, ?_, KX, KC⟩
      obtain ⟨mm, ⟨o', _, _, e, _⟩, _⟩ := (T.seer (by kernel_rfl)).mods
      exact ⟨o', e⟩
    have hsys : ∃ mm, s₁.heap.Ns sysModules mm := by
      obtain ⟨mm, h, _⟩ := (T.seer (by kernel_rfl)).mods
      exact ⟨mm, h⟩
    have ha : s₁.heap.get? w2 = some (LObj w1'.toArray 0) := by
      obtain ⟨o1, e1, _, n1, d1⟩ := hL
      simp only [ofPy] at w1
      cases w1 with
      | list e r =>
        rw [e] at e1
        cases e1
        cases d1
        exact e
    refine wpAny_mono (law_walk (H := s₁.heap) (L := s₁.heap.objs.size) (a := w2) (tvs := w1'.toArray) (n0 := 0) (ts := w5) (P := w.params) (mg := mg) (mb := mb) ⟨rfl, rfl, rfl, rfl, rfl, rfl⟩ bs hsys (by
      cases q : s₁.heap.get? s₁.heap.objs.size with
      | none => rfl
      | some o => exact absurd (Heap.lt_size q) (Nat.lt_irrefl _)) ⟨by show 1 + claimMargin + 1 + 40 < recursionLimit; decide, by show 4 + 3 + 20 * 40 < cLine; decide⟩ rfl rfl ha (by simpa using hI) (by omega) F.keep F.ns ?_ ?_ ?_) (fun f s' h => h) (fun _ _ h => h.elim)
    · rfl
    · intro y hy
      have : (y == ("script" : Str)) = false := by simpa using hy
      show List.lookup y [(("script" : Str), Value.ref w2)] = none
      rw [List.lookup_cons, this]
      rfl
    · intro s' hk hg' hos
      refine ⟨.inl ⟨.bool true, .bool true, [], rfl, raisesW_false ?hnx, .bool true, ?hpx, unshared_nil⟩, hk, hos, hg'.trans hg⟩
      case hnx => wrow_none_raised
      case hpx =>
        refine' postW_of ?psx ?pvx ?pex
        case psx => o_shape
        case pvx => wtm_val
        case pex => w_fin
end Mine
theorem PySem.Challenge.cw_no0159_01_holds : PySem.Challenge.rw_no0159_01.Holds := by
  exact Mine.law_holds
